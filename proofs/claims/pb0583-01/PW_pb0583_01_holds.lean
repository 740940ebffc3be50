import PyProof.Rows.All
import Wide.All
import OpenK.AllK
import Wide.FinOn
import PyProof.ListStr
import KE.KxBytes
import KE.BytesMake
import PySem.Challenge.RW_pb0583_01
open PySem PySem.W PySem.Calls PyProof.Rows
set_option Elab.async false
set_option maxRecDepth 100000
namespace Mine
local macro_rules | `(tactic| o_head $_) => `(tactic| (exfalso; assumption))
set_option maxRecDepth 100000 in
set_option maxHeartbeats 8000000 in
theorem hd : False → PySem.Challenge.rw_pb0583_01.row.Holds := by
  intro no
  k_head
end Mine
-- part Left
namespace Mine
noncomputable def qv : Program := view PySem.Challenge.pw_pb0583_01 [0,  1,  2,  3,  4,  5,  7,  8,  9,  11,  12,  13,  14,  15,  16,  17,  19,  20,  21,  22,  23,  24,  25,  26,  27,  28,  30,  31,  32,  33,  34,  36,  38,  39,  41,  42,  43,  44,  45,  46,  47,  48]
noncomputable def lv : List (Str × WData) := [("LOG_HEAD", WData.int 20)]
noncomputable def topT (p : Program) (w : World) (n₀ : Nat) (ann : Option Value) : Nat → SharedT → Thread → Option SharedT
  | 0, _, _ => none
  | n + 1, s, t => match through t with
    | true => some s
    | false => match Fast.tw6613529449190102663 n₀ ann t with
      | false => none
      | true => match Fast.tw10156331382660048174 (Fast.tw11892475500146522536 Fast.tw14364793385576792824) p w s t with
        | some (s', t') => topT p w n₀ ann n s' t'
        | none => none
theorem topT_of {p : Program} {w : World} {n₀ : Nat} {ann : Option Value} : ∀ {n : Nat} {s s' : SharedT} {t : Thread}, topT p w n₀ ann n s t = some s' → topRun treeTable p w n₀ ann n s.abs t = some s'.abs := by
  intro n
  induction n with
  | zero => intro s s' t h; cases h
  | succ n ih =>
    intro s s' t h
    unfold topT at h
    rw [← Fast.te6613529449190102663, ← Fast.te10156331382660048174, ← Fast.te11892475500146522536, ← Fast.te14364793385576792824] at h
    unfold topRun
    cases h1 : through t <;> simp only [h1] at h ⊢
    · cases h2 : stepOk n₀ ann t <;> simp only [h2] at h ⊢
      · cases h
      · cases h3 : stepT (denote treeTable) p w s t with
        | none => rw [h3] at h; cases h
        | some r => rw [h3] at h; rw [stepT_spec h3]; exact ih h
    · exact congrArg some (congrArg SharedT.abs (Option.some.inj h))
noncomputable def bootT (P : Params) : BT := .node (boot_o_0 P) (.node (boot_o_1 P) (.node (boot_o_3 P) (.node (boot_o_7 P) .nil .nil) .nil) (.node (boot_o_5 P) (.node (boot_o_9 P) .nil .nil) .nil)) (.node (boot_o_2 P) (.node (boot_o_4 P) (.node (boot_o_8 P) .nil .nil) .nil) (.node (boot_o_6 P) (.node (boot_o_10 P) .nil .nil) .nil))
theorem boot_abs (P : Params) : absHeap (bootT P) 11 (boot_heap P).life = boot_heap P := by kernel_rfl
theorem boot_ns (P : Params) : (boot_heap P).isNs mainGlobals = true := by kernel_rfl
theorem left_of {p q : Program} {loose : List Str} {Xt : Shared → Bool} {α : Type} {Yf : Shared → α} {Ya : World → α} {N : Nat}
    (op : ∀ w : World, (fencedOpening treeTable p w N).map (fun s => (s.heap, s.gens, s.drawn, s.toks)) = some (boot_heap w.params, Array.mk [], boot_drawn, boot_toks))
    (hA : ∀ (w : World) os, ((topT p w 11 ((boot_heap w.params).nsMap mainGlobals "__annotations__") N ⟨bootT w.params, 11, (boot_heap w.params).life, Array.mk [], boot_drawn, boot_toks, os⟩ (topStub p)).map fun s => ((staticsOk (importedModules p.main.body) (boot_heap w.params) s.abs.heap && namesBound p s.abs.heap && gensDone s.abs && laidKept (boot_heap w.params) s.abs.heap), (Fast.tw4187177175401517315 q loose (importedModules p.main.body) Xt true s.abs).1, (Fast.tw4187177175401517315 q loose (importedModules p.main.body) Xt true s.abs).2.1, (Fast.tw4187177175401517315 q loose (importedModules p.main.body) Xt true s.abs).2.2.1, (Fast.tw4187177175401517315 q loose (importedModules p.main.body) Xt true s.abs).2.2.2.1)) =
      some (true, expectedOf q, bltViewBooted, true, true))
    (hB : ∀ (w : World) os, ((topT p w 11 ((boot_heap w.params).nsMap mainGlobals "__annotations__") N ⟨bootT w.params, 11, (boot_heap w.params).life, Array.mk [], boot_drawn, boot_toks, os⟩ (topStub p)).map fun s => ((Fast.tw4187177175401517315 q loose (importedModules p.main.body) Xt true s.abs).2.2.2.2.1, (Fast.tw4187177175401517315 q loose (importedModules p.main.body) Xt true s.abs).2.2.2.2.2.1, (Fast.tw4187177175401517315 q loose (importedModules p.main.body) Xt true s.abs).2.2.2.2.2.2.1, (Fast.tw4187177175401517315 q loose (importedModules p.main.body) Xt true s.abs).2.2.2.2.2.2.2.1, (Fast.tw4187177175401517315 q loose (importedModules p.main.body) Xt true s.abs).2.2.2.2.2.2.2.2, Yf s.abs)) =
      some (pinGoodD (drecsOf q), plainGoodE q (looseW q loose), plainGoodD q loose, wideGood q, clsGoodW q loose, Ya w)) : LeftO p q loose Xt Yf Ya N := by
  intro w
  rw [← Fast.te4187177175401517315] at hA hB
  obtain ⟨⟨hh, gs, d, k, os⟩, e, e'⟩ := Option.map_eq_some_iff.mp (op w)
  obtain ⟨rfl, rfl, rfl, rfl⟩ : hh = boot_heap w.params ∧ gs = Array.mk [] ∧ d = boot_drawn ∧ k = boot_toks := by simpa using e'
  obtain ⟨s, r, z⟩ := Option.map_eq_some_iff.mp (hA w os)
  obtain ⟨s', r', y⟩ := Option.map_eq_some_iff.mp (hB w os)
  obtain rfl : s = s' := Option.some.inj (r.symm.trans r')
  have r1 := topT_of r
  unfold SharedT.abs at r1
  rw [boot_abs] at r1
  obtain ⟨z1, z⟩ := Prod.mk.inj z
  obtain ⟨z2, z⟩ := Prod.mk.inj z
  obtain ⟨z3, z⟩ := Prod.mk.inj z
  obtain ⟨z4, z5⟩ := Prod.mk.inj z
  obtain ⟨y1, y⟩ := Prod.mk.inj y
  obtain ⟨y2, y⟩ := Prod.mk.inj y
  obtain ⟨y3, y⟩ := Prod.mk.inj y
  obtain ⟨y4, y⟩ := Prod.mk.inj y
  obtain ⟨y5, y6⟩ := Prod.mk.inj y
  unfold openEnds topFrom
  rw [e]
  show Option.map _ (match (boot_heap w.params).isNs mainGlobals && true with | true => _ | false => _) = _
  rw [boot_ns]
  have hs : (boot_heap w.params).objs.size = 11 := by rw [← boot_abs, absHeap_size]
  dsimp only [Bool.and_true]
  rw [hs, r1]
  show Option.map _ (match staticsOk (importedModules p.main.body) (boot_heap w.params) s.abs.heap && namesBound p s.abs.heap && gensDone s.abs && laidKept (boot_heap w.params) s.abs.heap with | true => some s.abs | false => none) = _
  rw [z1]
  exact congrArg some (Prod.ext (Prod.ext z2 (Prod.ext z3 (Prod.ext z4 (Prod.ext z5 (Prod.ext y1 (Prod.ext y2 (Prod.ext y3 (Prod.ext y4 y5)))))))) y6)
noncomputable def adsK : List Addr := [2,  3,  15,  22,  24,  25,  27,  28,  29,  30,  31,  32,  35,  42,  43,  44,  47,  54,  55,  56,  59,  62,  63,  64,  67,  68,  69,  72,  73,  74,  77,  78,  86,  88,  89,  91,  92,  93,  95,  96,  98,  99,  100,  102,  103,  105,  106,  107,  109,  110,  112,  113,  114,  116,  117,  119,  120,  121,  122,  123,  124,  125,  135,  136,  138,  139,  141,  142,  143,  145,  146,  148,  149,  150,  152,  153,  155,  156,  157,  159,  160,  162,  163,  164,  166,  167,  169,  170,  171,  172,  173,  174,  175,  178,  180,  181,  183,  184,  185,  186,  189,  190,  191,  193,  194,  196,  197,  198,  201,  202,  203,  205,  206,  208,  209,  210,  212,  213,  215,  216,  217,  219,  220,  222,  223,  224,  226,  227,  229,  230,  231,  233,  234,  236,  237,  238,  240,  241,  243,  244,  245,  247,  248,  250,  251,  259,  260,  262,  263,  265,  266,  267,  269,  270,  272,  273,  274,  275,  276,  277,  278,  281,  283,  284,  286,  287,  288,  290,  291,  293,  294,  295,  297,  298,  300,  301,  302,  305,  306,  307,  310,  311,  312,  314,  315,  317,  318,  319,  321,  322,  324,  325,  326,  328,  329,  331,  332,  333,  335,  336,  338,  339,  340,  343,  344]
set_option maxHeartbeats 8000000 in
theorem leftA (w : World) (os : OsState) : ((topT PySem.Challenge.pw_pb0583_01 w 11 ((boot_heap w.params).nsMap mainGlobals "__annotations__") 5284 ⟨bootT w.params, 11, (boot_heap w.params).life, Array.mk [], boot_drawn, boot_toks, os⟩ (topStub PySem.Challenge.pw_pb0583_01)).map fun s => ((staticsOk (importedModules PySem.Challenge.pw_pb0583_01.main.body) (boot_heap w.params) s.abs.heap && namesBound PySem.Challenge.pw_pb0583_01 s.abs.heap && gensDone s.abs && laidKept (boot_heap w.params) s.abs.heap), (Fast.tw4187177175401517315 qv ["LOG_HEAD"] (importedModules PySem.Challenge.pw_pb0583_01.main.body) (fun s => xlAt qv lv s && recOk [] s) true s.abs).1, (Fast.tw4187177175401517315 qv ["LOG_HEAD"] (importedModules PySem.Challenge.pw_pb0583_01.main.body) (fun s => xlAt qv lv s && recOk [] s) true s.abs).2.1, (Fast.tw4187177175401517315 qv ["LOG_HEAD"] (importedModules PySem.Challenge.pw_pb0583_01.main.body) (fun s => xlAt qv lv s && recOk [] s) true s.abs).2.2.1, (Fast.tw4187177175401517315 qv ["LOG_HEAD"] (importedModules PySem.Challenge.pw_pb0583_01.main.body) (fun s => xlAt qv lv s && recOk [] s) true s.abs).2.2.2.1)) =
    some (true, expectedOf qv, bltViewBooted, true, true) := by kernel_rfl
set_option maxHeartbeats 8000000 in
theorem leftB (w : World) (os : OsState) : ((topT PySem.Challenge.pw_pb0583_01 w 11 ((boot_heap w.params).nsMap mainGlobals "__annotations__") 5284 ⟨bootT w.params, 11, (boot_heap w.params).life, Array.mk [], boot_drawn, boot_toks, os⟩ (topStub PySem.Challenge.pw_pb0583_01)).map fun s => ((Fast.tw4187177175401517315 qv ["LOG_HEAD"] (importedModules PySem.Challenge.pw_pb0583_01.main.body) (fun s => xlAt qv lv s && recOk [] s) true s.abs).2.2.2.2.1, (Fast.tw4187177175401517315 qv ["LOG_HEAD"] (importedModules PySem.Challenge.pw_pb0583_01.main.body) (fun s => xlAt qv lv s && recOk [] s) true s.abs).2.2.2.2.2.1, (Fast.tw4187177175401517315 qv ["LOG_HEAD"] (importedModules PySem.Challenge.pw_pb0583_01.main.body) (fun s => xlAt qv lv s && recOk [] s) true s.abs).2.2.2.2.2.2.1, (Fast.tw4187177175401517315 qv ["LOG_HEAD"] (importedModules PySem.Challenge.pw_pb0583_01.main.body) (fun s => xlAt qv lv s && recOk [] s) true s.abs).2.2.2.2.2.2.2.1, (Fast.tw4187177175401517315 qv ["LOG_HEAD"] (importedModules PySem.Challenge.pw_pb0583_01.main.body) (fun s => xlAt qv lv s && recOk [] s) true s.abs).2.2.2.2.2.2.2.2, adsK.map s.abs.heap.get?)) =
    some (pinGoodD (drecsOf qv), plainGoodE qv (looseW qv ["LOG_HEAD"]), plainGoodD qv ["LOG_HEAD"], wideGood qv, clsGoodW qv ["LOG_HEAD"], (Mine.hd.heap_1 w.params).map fun p => some p.2) := by kernel_rfl
set_option maxHeartbeats 8000000 in
theorem left : LeftO PySem.Challenge.pw_pb0583_01 qv ["LOG_HEAD"] (fun s => xlAt qv lv s && recOk [] s) (fun s => adsK.map s.heap.get?) (fun w => (Mine.hd.heap_1 w.params).map fun p => some p.2) 5284 :=
  left_of (boot_open (by kernel_rfl) (by kernel_rfl) fun _ => by kernel_rfl) leftA leftB
end Mine
-- part Ml
namespace Mine
/-- little-endian value -/
noncomputable def lev : List Int → Int
  | [] => 0
  | k :: r => k + 256 * lev r
/-- little-endian digits -/
noncomputable def dig (x : Int) (n : Nat) : List Int := (List.range n).map fun i => x / 256 ^ i % 256
theorem sum_mul (c : Int) : ∀ l : List Int, (l.map fun x => c * x).sum = c * l.sum
  | [] => by simp
  | x :: r => by rw [List.map_cons, List.sum_cons, List.sum_cons, sum_mul c r, Int.mul_add]
theorem lev_sum : ∀ ks : List Int, ((List.range ks.length).map fun i => ks.getD i 0 * 256 ^ i).sum = lev ks
  | [] => rfl
  | k :: r => by
    rw [List.length_cons, List.range_succ_eq_map, List.map_cons, List.map_map, List.sum_cons, lev, ← lev_sum r, ← sum_mul, List.map_map]
    congr 1
    · simp
    · congr 1
      apply List.map_congr_left
      intro i _
      show (k :: r).getD (i + 1) 0 * 256 ^ (i + 1) = 256 * (r.getD i 0 * 256 ^ i)
      rw [List.getD_cons_succ, Int.pow_succ, Int.mul_comm (256 ^ i) 256, ← Int.mul_assoc, ← Int.mul_assoc, Int.mul_comm (r.getD i 0) 256]
theorem two8 (i : Nat) : (2 : Int) ^ (8 * (i : Int)).toNat = 256 ^ i := by
  have e : (8 * (i : Int)).toNat = 8 * i := by omega
  rw [e, Int.pow_mul]; rfl
theorem getD_ints {b : Array UInt8} {i : Nat} {c : UInt8} (h : b[i]? = some c) : (KBw.bInts b).getD i 0 = (c.toNat : Int) := by
  rw [List.getD_eq_getElem?_getD, KBw.ints_get h]; rfl
end Mine
namespace Mine
theorem dig_length (x : Int) (n : Nat) : (dig x n).length = n := by simp [dig]
theorem mask8 (y : Int) : Builtin.bitAnd y 255 = y % 256 := kbt_mask y 8
theorem dig_elt (x : Int) (k : Nat) : Builtin.bitAnd (x.fdiv (2 ^ (8 * (0 + (k : Int) * 1)).toNat)) 255 = x / 256 ^ k % 256 := by
  have h256 : (0 : Int) ≤ 256 ^ k := Int.pow_nonneg (by decide)
  rw [mask8, show (0 + (k : Int) * 1) = (k : Int) by omega, two8, Int.fdiv_eq_ediv_of_nonneg _ h256]
theorem dig_in {x : Int} {n : Nat} : ∀ k ∈ dig x n, 0 ≤ k ∧ k < 256 := by
  intro k hk
  obtain ⟨i, _, rfl⟩ := List.mem_map.mp hk
  exact ⟨Int.emod_nonneg _ (by decide), Int.emod_lt_of_pos _ (by decide)⟩
theorem rangeSize1 (n : Nat) : Builtin.Range.rangeSize 0 (n : Int) 1 = ((n : Nat) : Int) := by
  have := rangeSize_nat 0 n
  simpa using this
end Mine
namespace Mine
theorem noPy256 {x : Int} {k : Nat} (h : k ≤ 100) : Builtin.divisionGoesByPylong x ((256 : Int) ^ k) = false := by
  refine PyProof.noPylong_of_log2 ?_
  have e : ((256 : Int) ^ k).natAbs = 256 ^ k := by rw [Int.natAbs_pow]; rfl
  rw [e]
  have : (256 : Nat) ^ k < 2 ^ 9000 := by
    calc (256 : Nat) ^ k ≤ 256 ^ 100 := Nat.pow_le_pow_right (by decide) h
      _ < 2 ^ 9000 := by
        rw [show (256 : Nat) = 2 ^ 8 from rfl, ← Nat.pow_mul]
        exact Nat.pow_lt_pow_right (by decide) (by decide)
  exact (Nat.log2_lt (Nat.ne_of_gt (Nat.pow_pos (by decide)))).mpr this
theorem ne256 (k : Nat) : ((256 : Int) ^ k) ≠ 0 := Int.ne_of_gt (Int.pow_pos (by decide))
theorem toNat01 (i : Nat) : (0 + (i : Int) * 1).toNat = i := by omega
theorem dig_elt2 (x : Int) (k : Nat) : (x.fdiv (256 ^ (0 + (k : Int) * 1).toNat)).fmod 256 = x / 256 ^ k % 256 := by
  have h256 : (0 : Int) ≤ 256 ^ k := Int.pow_nonneg (by decide)
  rw [toNat01, Int.fdiv_eq_ediv_of_nonneg _ h256, Int.fmod_eq_emod_of_nonneg _ (by decide)]
end Mine
namespace Mine
theorem getD_some {ks : List Int} {i : Nat} {k : Int} (h : ks[i]? = some k) : ks.getD i 0 = k := by
  rw [List.getD_eq_getElem?_getD, h]; rfl
end Mine
namespace Mine
theorem slice4 (ks : List Int) (i : Nat) :
    List.take (clipAt ks.length (0 + (i : Int) * 4 + 4) - clipAt ks.length (0 + (i : Int) * 4)) (List.drop (clipAt ks.length (0 + (i : Int) * 4)) ks) = (ks.drop (4 * i)).take 4 := by
  have e1 : 0 + (i : Int) * 4 = ((4 * i : Nat) : Int) := by omega
  have e2 : 0 + (i : Int) * 4 + 4 = ((4 * i + 4 : Nat) : Int) := by omega
  rw [e2, e1, clipAt_nat, clipAt_nat]
  by_cases h : 4 * i ≤ ks.length
  · rw [Nat.min_eq_left h]
    by_cases h4 : 4 * i + 4 ≤ ks.length
    · rw [Nat.min_eq_left h4]; congr 1; omega
    · rw [Nat.min_eq_right (by omega), List.take_of_length_le (by rw [List.length_drop]; exact Nat.le_refl _), List.take_of_length_le (by rw [List.length_drop]; omega)]
  · rw [List.drop_eq_nil_of_le (as := ks) (i := min (4 * i) ks.length) (by omega), List.drop_eq_nil_of_le (by omega)]; simp
theorem take4_le (ks : List Int) (i : Nat) : ((ks.drop (4 * i)).take 4).length ≤ 4 := by rw [List.length_take]; exact Nat.min_le_left _ _
end Mine
namespace Mine
theorem getD_mem {ks : List Int} {i : Nat} (h : i < ks.length) : ks.getD i 0 ∈ ks := by
  rw [List.getD_eq_getElem?_getD, List.getElem?_eq_getElem h]; exact List.getElem_mem h
end Mine
namespace Mine
/-- the four-octet words of a list, the last one maybe shorter -/
noncomputable def words : Nat → List Int → List Int
  | 0, _ => []
  | n + 1, ks => lev (ks.take 4) :: words n (ks.drop 4)
theorem words_get : ∀ (n : Nat) (ks : List Int), words n ks = (List.range n).map fun i => lev ((ks.drop (4 * i)).take 4)
  | 0, _ => rfl
  | n + 1, ks => by
    rw [words, words_get n, List.range_succ_eq_map, List.map_cons, List.map_map]
    congr 1
    apply List.map_congr_left
    intro i _
    show lev (((ks.drop 4).drop (4 * i)).take 4) = lev ((ks.drop (4 * (i + 1))).take 4)
    rw [List.drop_drop, show 4 + 4 * i = 4 * (i + 1) by omega]
theorem words_length : ∀ (n : Nat) (ks : List Int), (words n ks).length = n
  | 0, _ => rfl
  | n + 1, ks => by rw [words, List.length_cons, words_length n]
def Oct (ks : List Int) : Prop := ∀ k ∈ ks, 0 ≤ k ∧ k < 256
theorem lev_bound : ∀ {ks : List Int}, Oct ks → 0 ≤ lev ks ∧ lev ks < 256 ^ ks.length
  | [], _ => by decide
  | k :: r, h => by
    have h1 := lev_bound (ks := r) fun x hx => h x (List.mem_cons_of_mem _ hx)
    have h2 := h k List.mem_cons_self
    rw [lev, List.length_cons, Int.pow_succ]
    generalize (256 : Int) ^ r.length = p at h1 ⊢
    omega
theorem words_oct : ∀ (n : Nat) {ks : List Int}, Oct ks → ∀ x ∈ words n ks, 0 ≤ x ∧ x < 4294967296
  | 0, _, _, x, hx => by cases hx
  | n + 1, ks, h, x, hx => by
    rw [words] at hx
    rcases List.mem_cons.mp hx with rfl | hx
    · have b := lev_bound (ks := ks.take 4) fun y hy => h y (List.mem_of_mem_take hy)
      refine ⟨b.1, Int.lt_of_lt_of_le b.2 ?_⟩
      have hl : (ks.take 4).length ≤ 4 := by rw [List.length_take]; exact Nat.min_le_left _ _
      have h4 : (256 : Nat) ^ (ks.take 4).length ≤ 256 ^ 4 := Nat.pow_le_pow_right (by decide) hl
      have e : (256 : Int) ^ (ks.take 4).length = ((256 ^ (ks.take 4).length : Nat) : Int) := by rw [Int.natCast_pow]; rfl
      rw [e]
      generalize 256 ^ (ks.take 4).length = q at h4
      omega
    · exact words_oct n (ks := ks.drop 4) (fun y hy => h y (List.mem_of_mem_drop hy)) x hx
noncomputable def flS (f : Int → Int) (ws : List Int) : Int := ((List.range ws.length).map fun (i : Nat) => f ((ws.length : Int) - (i : Int)) * ws.getD i 0).sum
noncomputable def f2 (a : Int) : Int := (a * (a + 1)).fdiv 2
noncomputable def f3 (a : Int) : Int := (a * (a + 1) * (a + 2)).fdiv 6
noncomputable def M32 : Int := 4294967296
theorem mask32 (y : Int) : Builtin.bitAnd y 4294967295 = y % M32 := kbt_mask y 32
end Mine
namespace Mine
theorem uncons {α : Type} {l : List α} {n : Nat} (h : l.length = n + 1) : ∃ a r, l = a :: r ∧ r.length = n := by
  cases l with
  | nil => cases h
  | cons a r => exact ⟨a, r, rfl, Nat.succ.inj h⟩
theorem eleven {l0 : List Tok} (h0 : l0.length = 11) : ∃ b0 b1 b2 b3 b4 b5 b6 b7 b8 b9 b10, l0 = [b0, b1, b2, b3, b4, b5, b6, b7, b8, b9, b10] := by
  obtain ⟨b0, l1, rfl, h1⟩ := uncons h0
  obtain ⟨b1, l2, rfl, h2⟩ := uncons h1
  obtain ⟨b2, l3, rfl, h3⟩ := uncons h2
  obtain ⟨b3, l4, rfl, h4⟩ := uncons h3
  obtain ⟨b4, l5, rfl, h5⟩ := uncons h4
  obtain ⟨b5, l6, rfl, h6⟩ := uncons h5
  obtain ⟨b6, l7, rfl, h7⟩ := uncons h6
  obtain ⟨b7, l8, rfl, h8⟩ := uncons h7
  obtain ⟨b8, l9, rfl, h9⟩ := uncons h8
  obtain ⟨b9, l10, rfl, h10⟩ := uncons h9
  obtain ⟨b10, l11, rfl, h11⟩ := uncons h10
  obtain rfl := List.length_eq_zero_iff.mp h11
  exact ⟨b0, b1, b2, b3, b4, b5, b6, b7, b8, b9, b10, rfl⟩
theorem fourv {l0 : List Value} (h0 : l0.length = 4) : ∃ b0 b1 b2 b3, l0 = [b0, b1, b2, b3] := by
  obtain ⟨b0, l1, rfl, h1⟩ := uncons h0
  obtain ⟨b1, l2, rfl, h2⟩ := uncons h1
  obtain ⟨b2, l3, rfl, h3⟩ := uncons h2
  obtain ⟨b3, l4, rfl, h4⟩ := uncons h3
  obtain rfl := List.length_eq_zero_iff.mp h4
  exact ⟨b0, b1, b2, b3, rfl⟩
end Mine
-- part Cp
namespace Mine
abbrev Ext (h h' : Heap) : Prop := ∀ b o, h.get? b = some o → h'.get? b = some o
noncomputable abbrev lst (ys : List Value) : Obj := { cls := .type "list", data := .seq ys.toArray ys.length }
def Off (wr : List Addr) (C D : Addr) (h h' : Heap) : Prop := ∀ b o, b ∉ wr → b ≠ C → b ≠ D → h.get? b = some o → h'.get? b = some o
structure Src (prog : Program) (w : World) (A : Around) (cenv : Addr → Env) (target : PySem.Expr) (I : Addr) (fp wr : List Addr) (n : Nat) (St : Nat → Heap → Prop) (B : Nat → (Str → Option Value) → Prop) : Prop where
  sub : ∀ b ∈ wr, b ∈ fp
  live : ∀ i h, St i h → ∀ b ∈ wr, ∃ o, h.get? b = some o
  frame : ∀ i h h', St i h → (∀ b ∈ fp, ∀ o, h.get? b = some o → h'.get? b = some o) → St i h'
  turn : ∀ i C m (s : Shared) (Q : Unit → Shared → Prop) (E : Value → Shared → Prop), i < n → St i s.heap → C ∉ fp → s.heap.Ns C m →
    (∀ h' tk m', St (i + 1) h' → (∀ b o, b ∉ wr → b ≠ C → s.heap.get? b = some o → h'.get? b = some o) → h'.Ns C m' → B i m' → Q () { s with heap := h', toks := tk }) →
    wpAny (model prog w) A (pyNext (.ref I)) (fun r s₁ => match r with
      | none => False
      | some v => wpAny (model prog w) A (letOwnedTupleGo target (.ref I) v) (fun _ s₀ => wpAny (model prog w) A (assign target (cenv C) v) Q E s₀) E s₁) E s
  done : ∀ (s : Shared) (Q : Option Value → Shared → Prop) (E : Value → Shared → Prop), St n s.heap →
    (∀ h' tk, (∀ b o, b ∉ wr → s.heap.get? b = some o → h'.get? b = some o) → Q none { s with heap := h', toks := tk }) → wpAny (model prog w) A (pyNext (.ref I)) Q E s
  self : ∀ i (s : Shared) (Q : Value → Shared → Prop) (E : Value → Shared → Prop), St i s.heap → Q (.ref I) s → wpAny (model prog w) A (pyIter (.ref I)) Q E s
/-- what an element's tree must give: it keeps all but the block's own names -/
def ElPost (C : Addr) (s' : Shared) (R : Heap → Value → Prop) (y : Value) (s'' : Shared) : Prop := ∃ h' tk m', s'' = { s' with heap := h', toks := tk } ∧ h'.Ns C m' ∧
    (∀ b o, b ≠ C → s'.heap.get? b = some o → h'.get? b = some o) ∧ ∀ h'', (∀ b o, s'.heap.get? b = none → h'.get? b = some o → h''.get? b = some o) → R h'' y
theorem lst_push (ys : List Value) (y : Value) : ({ cls := .type "list", data := .seq (ys.toArray.push y) (ys.length + 1) } : Obj) = lst (ys ++ [y]) := by
  simp [lst]
theorem Off.refl {wr : List Addr} {C D : Addr} (h : Heap) : Off wr C D h h := fun _ _ _ _ _ e => e
theorem comp_src {prog : Program} {w : World} {A : Around} {E : Value → Shared → Prop} {s₂ : Shared} {env : Env} {scope : Scope} {cl : List (Str × Addr)} {pos : Pos} {elt target iter : PySem.Expr} {I : Addr} {fp wr : List Addr} {n : Nat}
    {St : Nat → Heap → Prop} {B : Nat → (Str → Option Value) → Prop} {h₁ : Heap} {R : Nat → Heap → Value → Prop} {RR : Value → Addr → Result → Shared → Prop}
    (S : Src prog w A (fun C => compEnvC scope cl C env) target I fp wr n St B) (hn : n ≤ sizeLine) (hst : St 0 s₂.heap) (hfp : ∀ b ∈ fp, b < s₂.heap.objs.size)
    (k₁ : Ext h₁ s₂.heap) (hsz : h₁.objs.size ≤ s₂.heap.objs.size) (hw : ∀ b ∈ wr, h₁.get? b = none) {ex : List Addr} (hex : ∀ b ∈ ex, ∃ o, h₁.get? b = some o) (hcell : ∀ y ∈ scope.names, y.2 ≠ .cell) (hkind : scope.kind = .function)
    (el : ∀ i C m s' (E' : Value → Shared → Prop), i < n → B i m → Fr h₁ C s'.heap m → (∃ h tk, s' = { s₂ with heap := h, toks := tk }) →
      wpAny (model prog w) A (eval elt (compEnvC scope cl C env)) (ElPost C s' (R i)) E' s')
    (fin : ∀ D C h' tk m' ys, Off wr C D h₁ h' → h₁.get? D = none → h₁.get? C = none → C ≠ D → h'.get? D = some (lst ys) → h'.Ns C m' → ys.length = n →
      (∀ i y, ys[i]? = some y → ∀ h'', Off (ex ++ wr) C D h' h'' → R i h'' y) → RR (.ref D) C (.ok .next) { s₂ with heap := h', toks := tk }) :
    wpAny (model prog w) A (newList []) (fun acc s₃ => wpAny (model prog w) A (newFunctionEnv scope env.globals cl [] env.qual none .none (some env)) (fun cenv s₄ =>
      codeAny (model prog w) A (.compStart (.ListComp elt [⟨target, iter, [], 0⟩] scope pos) 0 (.ref I) acc { cenv with scope := relabel scope env }) (RR acc cenv.locals) s₄) E s₃) E s₂ := by
  refine wpAny_newObj_type (wpAny_newFunctionEnv hcell (by intro y hy; simp at hy) (fun h3 hns3 hsb3 => ?_) hkind)
  dsimp only at hns3 hsb3 ⊢
  generalize hH2 : s₂.heap.push { cls := .type "list", dict := none, data := .seq ([] : List Value).toArray } = H2 at hns3 hsb3 ⊢
  have hC : H2.objs.size = s₂.heap.objs.size + 1 := by rw [← hH2, Heap.size_push]
  have hCD : H2.objs.size ≠ s₂.heap.objs.size := by rw [hC]; exact Nat.succ_ne_self _
  have below : ∀ b, b < s₂.heap.objs.size → b ≠ H2.objs.size ∧ b ≠ s₂.heap.objs.size := fun b hb => ⟨by rw [hC]; exact Nat.ne_of_lt (Nat.lt_succ_of_lt hb), Nat.ne_of_lt hb⟩
  have old : Ext s₂.heap h3 := fun b o e => hsb3.extBut b o (below b (Heap.lt_size e)).1 (Heap.get?_push_of_some _ (hH2 ▸ Heap.get?_push_of_some _ e))
  have hacc : h3.get? s₂.heap.objs.size = some (lst []) := hsb3.extBut _ _ (Ne.symm hCD) (Heap.get?_push_of_some _ (hH2 ▸ Heap.get?_push_size _ rfl))
  have hst3 : St 0 h3 := S.frame _ _ _ hst fun b _ o e => old b o e
  have fresh : ∀ a, s₂.heap.objs.size ≤ a → h₁.get? a = none := fun a ha => by
    cases e : h₁.get? a with
    | none => rfl
    | some o' => exact absurd (Heap.lt_size (k₁ a o' e)) (Nat.not_lt.mpr ha)
  have hD1 : h₁.get? s₂.heap.objs.size = none := fresh _ (Nat.le_refl _)
  have hC1 : h₁.get? H2.objs.size = none := fresh _ (by rw [hC]; exact Nat.le_succ _)
  have hDf : s₂.heap.objs.size ∉ fp := fun hm => Nat.lt_irrefl _ (hfp _ hm)
  have hCf : H2.objs.size ∉ fp := fun hm => by have := hfp _ hm; rw [hC] at this; exact Nat.lt_irrefl _ (Nat.lt_of_succ_lt this)
  have toExt : ∀ {h'}, Off wr H2.objs.size s₂.heap.objs.size h₁ h' → Ext h₁ h' := fun {h'} k b o e => k b o (fun hb => by rw [hw b hb] at e; cases e)
    (fun q => by rw [q, hC1] at e; cases e) (fun q => by rw [q, hD1] at e; cases e) e
  have loop : ∀ s₃ : Shared, s₃ = { s₂ with heap := h3, toks := s₂.toks + ([] : List (Str × Value)).length } →
      codeAny (model prog w) A (.compLoop (.ListComp elt [⟨target, iter, [], 0⟩] scope pos) 0 (.ref I) (.ref s₂.heap.objs.size) (compEnvC scope cl H2.objs.size env))
        (RR (.ref s₂.heap.objs.size) H2.objs.size) s₃ := by
    rintro s₃ rfl
    refine kcp_loop
      (fun k s' => ∃ h' tk i ys m', s' = { s₂ with heap := h', toks := tk } ∧ i ≤ n ∧ k = n + 1 - i ∧ ys.length = i ∧ St i h' ∧ h'.Ns H2.objs.size m' ∧ h'.get? s₂.heap.objs.size = some (lst ys) ∧
        Off wr H2.objs.size s₂.heap.objs.size h₁ h' ∧ (∀ j y, ys[j]? = some y → ∀ h'', Off (ex ++ wr) H2.objs.size s₂.heap.objs.size h' h'' → R j h'' y)) ?_ (n + 1)
      ⟨h3, _, 0, [], _, rfl, Nat.zero_le _, rfl, rfl, hst3, hns3, hacc, fun b o _ _ _ e => old b o (k₁ b o e), fun j y e => by simp at e⟩
    rintro k s' ⟨h', tk, i, ys, m', rfl, hi, rfl, hyl, hst', hn', hD', k', hR'⟩
    by_cases hlt : i < n
    · refine wpAny_mono (S.turn i _ _ _ ?Q _ hlt hst' hCf hn' ?item) ?post fun _ _ e => e
      case post =>
        intro r s₁ h₁'
        cases r with
        | none => exact h₁'.elim
        | some v => exact h₁'
      case item =>
        intro h4 tk4 m4 hst4 k4 hn4 hB4
        have off4 : Off wr H2.objs.size s₂.heap.objs.size h₁ h4 := fun b o h1 h2 h3' e => k4 b o h1 h2 (k' b o h1 h2 h3' e)
        refine wpAny_mono (el i _ m4 _ _ hlt hB4 ⟨hn4, toExt off4, by rw [hC]; exact Nat.le_succ_of_le hsz⟩ ⟨_, _, rfl⟩) (fun x s₄ hx => ?_) fun _ _ e => e
        obtain ⟨h5, tk5, m5, rfl, hn5, k5, hR5⟩ := hx
        have hDwr : s₂.heap.objs.size ∉ wr := fun q => hDf (S.sub _ q)
        have hD4 : h4.get? s₂.heap.objs.size = some (lst ys) := k4 _ _ hDwr (Ne.symm hCD) hD'
        refine append_at (its := ys.toArray) (n := ys.length) (k5 _ _ (Ne.symm hCD) hD4) (fun h6 hs6 hD6 => ?_) (by rw [List.size_toArray, hyl]; exact Nat.le_trans hi hn)
        have off6 : ∀ b o, b ≠ s₂.heap.objs.size → h5.get? b = some o → h6.get? b = some o := fun b o q e => hs6.extBut b o q e
        refine ⟨n + 1 - (i + 1), by omega, h6, tk5, i + 1, ys ++ [x], m5, rfl, hlt, rfl, by rw [List.length_append, List.length_singleton, hyl], S.frame _ _ _ hst4 fun b hb o e => off6 b o (fun q => hDf (q ▸ hb)) (k5 b o (fun q => hCf (by have q' : b = H2.objs.size := q; rw [← q']; exact hb)) e),
          hn5.sameBut hs6 hCD, hD6.trans (congrArg some (lst_push ys x)), fun b o h1 h2 h3' e => off6 b o h3' (k5 b o h2 (off4 b o h1 h2 h3' e)), fun j y e h'' k'' => ?_⟩
        by_cases hj : j < ys.length
        · rw [List.getElem?_append_left hj] at e
          exact hR' j y e h'' fun b o h1 h2 h3' e' => k'' b o h1 h2 h3' (off6 b o h3' (k5 b o h2 (k4 b o (fun q => h1 (List.mem_append_right _ q)) h2 e')))
        · have hj' : j = ys.length := by
            have := (List.getElem?_eq_some_iff.mp e).1
            rw [List.length_append, List.length_singleton] at this
            omega
          subst hj'
          rw [List.getElem?_append_right (Nat.le_refl _), Nat.sub_self] at e
          obtain rfl : x = y := by simpa using e
          rw [hyl]
          refine hR5 h'' fun b o e1 e2 => ?_
          have nb : ∀ c o', h4.get? c = some o' → b ≠ c := fun c o' ec q => by
            have e1' : h4.get? b = none := e1
            rw [q, ec] at e1'; cases e1'
          have bD := nb _ _ hD4
          obtain ⟨oC, _, _, hoC, _⟩ := hn4
          have bC := nb _ _ hoC
          have bw : b ∉ wr := fun q => by
            have e1' : h4.get? b = none := e1
            obtain ⟨o', ho'⟩ := S.live _ _ hst4 b q
            rw [e1'] at ho'; cases ho'
          have bx : b ∉ ex := fun q => by
            obtain ⟨o', ho'⟩ := hex b q
            exact nb _ _ (toExt off4 b o' ho') rfl
          exact k'' b o (fun q => (List.mem_append.mp q).elim bx bw) bC bD (off6 b o bD e2)
    · obtain rfl : i = n := Nat.le_antisymm hi (Nat.not_lt.mp hlt)
      refine S.done _ _ _ hst' fun h4 tk4 k4 => ?_
      have hDwr : s₂.heap.objs.size ∉ wr := fun q => hDf (S.sub _ q)
      have hCwr : H2.objs.size ∉ wr := fun q => hCf (S.sub _ q)
      refine fin _ _ h4 tk4 m' ys (fun b o h1 h2 h3' e => k4 b o h1 (k' b o h1 h2 h3' e)) hD1 hC1 hCD (k4 _ _ hDwr hD') (hn'.at' fun o e => k4 _ o hCwr e) hyl fun j y e h'' k'' => ?_
      exact hR' j y e h'' fun b o h1 h2 h3' e' => k'' b o h1 h2 h3' (k4 b o (fun q => h1 (List.mem_append_right _ q)) e')
  exact codeAny_compStart_list (loop _ rfl) (S.self 0 _ _ _ hst3 (loop _ rfl))
section
variable {prog : Program} {w : World} {A : Around} {E : Value → Shared → Prop} {s : Shared} {env : Env} {scope : Scope} {cl : List (Str × Addr)} {pos : Pos} {elt target iter : PySem.Expr} {g : Heap} {L : Addr} {m : Str → Option Value} {news : List (Addr × Obj)}
/-- what is to be shown of an iterator that the block walks over -/
def CompIt (prog : Program) (w : World) (A : Around) (env : Env) (scope : Scope) (cl : List (Str × Addr)) (elt target : PySem.Expr) (g : Heap) (L : Addr) (m : Str → Option Value) (news : List (Addr × Obj))
    (fin : Shared → Heap → Nat → (Nat → Heap → Value → Prop) → Prop) (it : Value) (s₂ : Shared) : Prop :=
  ∃ (I : Addr) (fp wr : List Addr) (n : Nat) (St : Nat → Heap → Prop) (B : Nat → (Str → Option Value) → Prop) (h₁ : Heap) (R : Nat → Heap → Value → Prop), it = .ref I ∧
    Src prog w A (fun C => compEnvC scope cl C env) target I fp wr n St B ∧ n ≤ sizeLine ∧ St 0 s₂.heap ∧ (∀ b ∈ fp, b < s₂.heap.objs.size) ∧ Ext h₁ s₂.heap ∧ h₁.objs.size ≤ s₂.heap.objs.size ∧ (∀ b ∈ wr, h₁.get? b = none) ∧
    Fr g L h₁ m ∧ News g L h₁ news ∧
    (∀ i C m s' (E' : Value → Shared → Prop), i < n → B i m → Fr h₁ C s'.heap m → (∃ h tk, s' = { s₂ with heap := h, toks := tk }) →
      wpAny (model prog w) A (eval elt (compEnvC scope cl C env)) (ElPost C s' (R i)) E' s') ∧
    fin s₂ h₁ n R
theorem frame_live {h : Heap} {L : Addr} {m : Str → Option Value} (F : Fr g L h m) : ∀ b ∈ [L], ∃ o, h.get? b = some o := fun b hb => by
  rw [List.mem_singleton.mp hb]
  obtain ⟨o, _, _, ho, _⟩ := F.ns
  exact ⟨o, ho⟩
def FinEv (g : Heap) (L : Addr) (m : Str → Option Value) (news : List (Addr × Obj)) (Q : Value → Shared → Prop) (s₂ : Shared) (h₁ : Heap) (n : Nat) (R : Nat → Heap → Value → Prop) : Prop :=
  ∀ D h' tk ys, Ext h₁ h' → Fr g L h' m → News g L h' ((D, lst ys) :: news) → h₁.get? D = none → ys.length = n → (∀ i y, ys[i]? = some y → R i h' y) → Q (.ref D) { s₂ with heap := h', toks := tk }
theorem comp_eval {Q : Value → Shared → Prop} (_F₀ : Fr g L s.heap m) (_N₀ : News g L s.heap news) (hclos : closureFor scope env = pure cl) (hcell : ∀ y ∈ scope.names, y.2 ≠ .cell) (hkind : scope.kind = .function)
    (hnames : ∀ y ∈ scope.names, y.2 = .local → scope.names.lookup y.1 = some .local)
    (h : wpAny (model prog w) A (eval iter env) (fun xv s₁ => wpAny (model prog w) A (pyIter xv) (CompIt prog w A env scope cl elt target g L m news (FinEv g L m news Q)) E s₁) E s)
    (hs : ∀ x, foldedSetIterable iter env x = pure x := by intro _; rfl) :
    wpAny (model prog w) A (eval (.ListComp elt [⟨target, iter, [], 0⟩] scope pos) env) Q E s := by
  rw [eval_ListComp]
  refine wpAny_comprehension_free (use := none) rfl hs hclos hkind hnames (wpAny_mono h (fun xv s₁ h₁ => wpAny_mono h₁ (fun it s₂ h₂ => ?_) fun _ _ e => e) fun _ _ e => e)
  obtain ⟨I, fp, wr, n, St, B, h₁, R, rfl, S, hn, hst, hfp, k₁, hsz, hw, F, N, el, fin⟩ := h₂
  refine comp_src (R := R) (ex := [L]) S hn hst hfp k₁ hsz hw (frame_live F) hcell hkind el fun D C h' tk m' ys off hD hC hCD hd hC' hl hR => ?_
  have kx : Ext h₁ h' := fun b o e => off b o (fun hb => by rw [hw b hb] at e; cases e) (fun q => by rw [q, hC] at e; cases e) (fun q => by rw [q, hD] at e; cases e) e
  refine ⟨m', hC', fun h'' hs'' => ?_⟩
  have kc : ∀ b o, b ≠ C → h'.get? b = some o → h''.get? b = some o := fun b o hb e => hs''.extBut b o hb e
  have kx' : Ext h₁ h'' := fun b o e => kc b o (fun q => by rw [q, hC] at e; cases e) (kx b o e)
  refine fin D h'' tk ys kx' (F.keeps kx') (fun p hp => ?_) hD hl fun i y e => hR i y e h'' fun b o _ h2 _ e' => kc b o h2 e'
  rcases List.mem_cons.mp hp with rfl | hp
  · refine ⟨kc _ _ (Ne.symm hCD) hd, fun q => ?_, ?_⟩
    · obtain ⟨o, ho⟩ := frame_live F L (List.mem_singleton.mpr rfl)
      rw [← q] at ho
      exact absurd (ho.symm.trans hD) (by simp)
    · cases q : g.get? D with
      | none => rfl
      | some o => have := F.keep D o q; rw [hD] at this; cases this
  · exact ⟨kx' _ _ (N p hp).1, (N p hp).2⟩
def FinAs (g : Heap) (L : Addr) (m : Str → Option Value) (news : List (Addr × Obj)) (y : Str) (Q : Flow → Shared → Prop) (s₂ : Shared) (h₁ : Heap) (n : Nat) (R : Nat → Heap → Value → Prop) : Prop :=
  ∀ D h' tk ys, (∀ b o, b ≠ L → h₁.get? b = some o → h'.get? b = some o) → Fr g L h' (fun z => if z = y then some (.ref D) else m z) → News g L h' ((D, lst ys) :: news) → h₁.get? D = none → ys.length = n → (∀ i y, ys[i]? = some y → R i h' y) → Q .next { s₂ with heap := h', toks := tk }
theorem comp_assign {y : Str} {py spos : Pos} {Q : Flow → Shared → Prop} (_F₀ : Fr g L s.heap m) (_N₀ : News g L s.heap news) (hLe : env.locals = L)
    (hsw : swapsWith (.ListComp elt [⟨target, iter, [], 0⟩] scope pos) (some (.Name y py)) spos.line env = pure true)
    (hclos : closureFor scope env = pure cl) (hcell : ∀ y ∈ scope.names, y.2 ≠ .cell) (hkind : scope.kind = .function)
    (hnames : ∀ y ∈ scope.names, y.2 = .local → scope.names.lookup y.1 = some .local)
    (hy : env.kindOf y = some .local) (hp : (env.scope.kind == .class || (env.scope.kind == .module && env.locals != env.globals)) = false)
    (h : wpAny (model prog w) A (eval iter env) (fun xv s₁ => wpAny (model prog w) A (pyIter xv) (CompIt prog w A env scope cl elt target g L m news (FinAs g L m news y Q)) E s₁) E s)
    (hs : ∀ x, foldedSetIterable iter env x = pure x := by intro _; rfl) :
    wpAny (model prog w) A (exec (.Assign [.Name y py] (.ListComp elt [⟨target, iter, [], 0⟩] scope pos) spos) env) Q E s := by
  subst hLe
  rw [exec_Assign_Name_used _ _ _ _ hsw]
  refine wpAny_bind (wpAny_standAt (wpAny_bind ?_))
  show wpAny _ A (do let _ ← comprehension (.ListComp elt [⟨target, iter, [], 0⟩] scope pos) scope env _ (newList []) false (eval iter env) (some (assign (.Name y py) env))) _ _ s
  refine wpAny_bind (wpAny_mono (wpAny_comprehension_free (use := some (assign (.Name y py) env)) (Q := fun _ s' => Q .next s') rfl hs hclos hkind hnames
    (wpAny_mono h (fun xv s₁ h₁ => wpAny_mono h₁ (fun it s₂ h₂ => ?_) fun _ _ e => e) fun _ _ e => e)) (fun _ s' hq => wpAny_pure (wpAny_pure hq)) fun _ _ e => e)
  obtain ⟨I, fp, wr, n, St, B, h₁, R, rfl, S, hn, hst, hfp, k₁, hsz, hw, F, N, el, fin⟩ := h₂
  refine comp_src (R := R) (ex := [env.locals]) S hn hst hfp k₁ hsz hw (frame_live F) hcell hkind el fun D C h' tk m' ys off hD hC hCD hd hC' hl hR => ?_
  have kx : Ext h₁ h' := fun b o e => off b o (fun hb => by rw [hw b hb] at e; cases e) (fun q => by rw [q, hC] at e; cases e) (fun q => by rw [q, hD] at e; cases e) e
  obtain ⟨oL, hoL⟩ := frame_live F env.locals (List.mem_singleton.mpr rfl)
  have hDL : D ≠ env.locals := fun q => by rw [q, hoL] at hD; cases hD
  have hCL : C ≠ env.locals := fun q => by rw [q, hoL] at hC; cases hC
  show wpAny _ A (assign (.Name y py) env (.ref D)) _ _ _
  refine wpAny_assign_Name (wpAny_storeName_local hy (F.ns.keeps kx) (fun h₂ hn₂ hs₂ => ?_) hp)
  refine ⟨m', hC'.sameBut hs₂ hCL, fun h'' hs'' => ?_⟩
  have kc : ∀ b o, b ≠ env.locals → b ≠ C → h'.get? b = some o → h''.get? b = some o := fun b o h1 h2 e => hs''.extBut b o h2 (hs₂.extBut b o h1 e)
  have hg : g.get? env.locals = none := Heap.get?_none_of_le F.above
  have hgC : g.get? C = none := by
    cases q : g.get? C with
    | none => rfl
    | some o => have := F.keep C o q; rw [hC] at this; cases this
  have kx' : ∀ b o, b ≠ env.locals → h₁.get? b = some o → h''.get? b = some o := fun b o h1 e => kc b o h1 (fun q => by rw [q, hC] at e; cases e) (kx b o e)
  refine fin D h'' _ ys kx' ⟨hn₂.sameBut hs'' (Ne.symm hCL), fun b o e => kx' b o (fun q => by rw [q, hg] at e; cases e) (F.keep b o e), F.above⟩ (fun p hp => ?_) hD hl fun i y e => hR i y e h'' fun b o h1 h2 _ e' => kc b o (fun q => h1 (List.mem_append_left _ (by rw [q]; exact List.mem_singleton.mpr rfl))) h2 e'
  rcases List.mem_cons.mp hp with rfl | hp
  · refine ⟨kc _ _ hDL (Ne.symm hCD) hd, hDL, ?_⟩
    cases q : g.get? D with
    | none => rfl
    | some o => have := F.keep D o q; rw [hD] at this; cases this
  · exact ⟨kx' _ _ (N p hp).2.1 (N p hp).1, (N p hp).2⟩
end
end Mine
-- part Cs
namespace Mine
theorem Src.name {prog : Program} {w : World} {A : Around} {env : Env} {scope : Scope} {cl : List (Str × Addr)} {I : Addr} {fp wr : List Addr} {n : Nat} {P : Nat → Value → Prop} {St : Nat → Heap → Prop} {x : Str} {px : Pos}
    (W : Walks prog w A I fp wr n P St) (live : ∀ i h, St i h → ∀ b ∈ wr, ∃ o, h.get? b = some o) (hx : scope.names.lookup x = some .local) (hkind : scope.kind = .function) :
    Src prog w A (fun C => compEnvC scope cl C env) (.Name x px) I fp wr n St (fun i m => ∃ v, P i v ∧ m x = some v) where
  sub := W.sub
  live := live
  frame := W.frame
  done := W.done
  self := W.self
  turn := fun i C m s Q E hi st hC hn hQ => by
    refine W.item i s _ _ hi st fun v h' tk hP hst' hk => ?_
    show wpAny _ A (pure ()) _ _ _
    refine wpAny_pure ?_
    have hCw : C ∉ wr := fun q => hC (W.sub _ q)
    refine wpAny_assign_Name (wpAny_storeName_local (lookup_relabel_local hx) (hn.at' fun o e => hk _ o hCw e) (fun h'' hn'' hs'' => ?_) (by simp [compEnvC, relabel, hkind]))
    exact hQ h'' _ _ (W.frame _ _ _ hst' fun b hb o e => hs''.extBut b o (fun q => hC (by have q' : b = C := q; rw [← q']; exact hb)) e)
      (fun b o h1 h2 e => hs''.extBut b o h2 (hk b o h1 e)) hn'' ⟨v, hP, by simp⟩
theorem Src.pair {prog : Program} {w : World} {A : Around} {env : Env} {scope : Scope} {cl : List (Str × Addr)} {I : Addr} {fp wr : List Addr} {n : Nat} {P : Nat → Value → Value → Prop} {Pt : Nat → Array Value → Prop} {St : Nat → Heap → Prop} {Mid : Nat → Addr → Heap → Prop}
    {a b : Str} {pa pb tp : Pos} {kk : Nat} (hh : A.handled = none)
    (W : WalksU prog w A I fp wr n Pt St Mid) (hP : ∀ i vals, Pt i vals → ∃ v0 v1, vals = #[v0, v1] ∧ P i v0 v1) (live : ∀ i h, St i h → ∀ b ∈ wr, ∃ o, h.get? b = some o)
    (ha : scope.names.lookup a = some .local) (hb : scope.names.lookup b = some .local) (hab : a ≠ b) (hkind : scope.kind = .function) :
    Src prog w A (fun C => compEnvC scope cl C env) (.Tuple [.Name a pa, .Name b pb] kk tp) I fp wr n St (fun i m => ∃ v0 v1, P i v0 v1 ∧ m a = some v0 ∧ m b = some v1) where
  sub := W.sub
  live := live
  frame := W.frame
  done := W.done
  self := W.self
  turn := fun i C m s Q E hi st hC hn hQ => by
    have hCw : C ∉ wr := fun q => hC (W.sub _ q)
    refine W.item i s _ _ hi st fun T vals h' tk hPt hT hM hk => ?_
    refine W.go _ _ _ i T _ _ _ hM fun h2 hst2 hk2 => ?_
    obtain ⟨v0, v1, rfl, hp⟩ := hP i vals hPt
    have hT2 : h2.IsTuple T #[v0, v1] := hT.at fun o e => hk2 T o (W.apart i T _ hM) e
    refine kcp_assign hh hT2 (lookup_relabel_local ha) (lookup_relabel_local hb) (by simp [compEnvC, relabel, hkind])
      (hn.at' fun o e => hk2 _ o hCw (hk _ o hCw e)) fun h3 tk3 hn3 hk3 => ?_
    exact hQ h3 tk3 _ (W.frame _ _ _ hst2 fun c hc o e => hk3 c o (fun q => hC (by have q' : c = C := q; rw [← q']; exact hc)) e)
      (fun c o h1 h4 e => hk3 c o h4 (hk2 c o h1 (hk c o h1 e))) hn3 ⟨v0, v1, hp, by simp [hab], by simp⟩
end Mine
-- part Ce
open PySem.Sem (wp)
open AutoSeq1 (wpAny_loadPart')
namespace Mine
open Builtin
section
variable {prog : Program} {w : World} {A : Around} {E : Value → Shared → Prop} {s : Shared} {b : Array UInt8} {t : Tok}
theorem nextOf_bytes_item {it : Addr} {i : Nat} {c : UInt8} {Q : Value → Shared → Prop} (hit : KBw.IsBytesIter s.heap it b t i) (hx : b[i]? = some c)
    (hQ : ∀ h', KBw.IsBytesIter h' it b t (i + 1) → Heap.SameBut it s.heap h' → Q (.int (c.toNat : Int) s.toks) { s with heap := h', toks := s.toks + 1 }) :
    wpAny (model prog w) A (Builtin.SmallTypes.nextOf (.ref it)) Q E s := by
  obtain ⟨o, ho, hc, hd⟩ := id hit
  unfold Builtin.SmallTypes.nextOf
  refine wpAny_bind (wpAny_callSpecial?_slot (name := PySem.Str.ofString "__next__") (KBw.iter_typeIs hit) KBw.slot_next
    (wpAny_call_entry KBw.slot_next (KBw.iter_typeIs hit) KBw.entry_next ?_ (KBw.args_next _)))
  show wpAny _ _ (field (.ref it) 0 >>= _) _ _ s
  refine wpAny_bind (wpAny_field ho hd (x := .bytes b t) rfl ?_)
  show wpAny _ _ (if (Value.bytes b t == Value.none) = true then _ else _) _ _ s
  rw [if_neg (show ¬ ((Value.bytes b t == Value.none) = true) from Bool.false_ne_true)]
  show wpAny _ _ (field (.ref it) 1 >>= _) _ _ s
  refine wpAny_bind (wpAny_field ho hd (x := .int i 0) rfl ?_)
  refine wpAny_bind (wpAny_of_eq (a := b) rfl ?_)
  simp only [Int.toNat_natCast, hx]
  refine wpAny_bind (wpAny_setField ho hd (by simp) (wpAny_bind (wpAny_mkInt (wpAny_pure ⟨_, rfl, wpAny_pure (hQ _ ?_ (Heap.SameBut.update ..))⟩))))
  exact ⟨_, Heap.get?_update_self _ ho (Obj.isFreed_of_fields (Obj.data_mapFields hd _)), (Obj.cls_mapFields ..).trans hc, by
    rw [Obj.data_mapFields hd]; simp [rawInt]⟩
theorem nextOf_bytes_end {it : Addr} {i : Nat} {Q : Value → Shared → Prop} (hh : A.handled = none) (hit : KBw.IsBytesIter s.heap it b t i) (hx : b[i]? = none)
    (hE : ∀ h' e, Heap.ExtBut it s.heap h' → (∃ o, h'.get? e = some o ∧ o.cls = .type "StopIteration") → E (.ref e) { s with heap := h' }) :
    wpAny (model prog w) A (Builtin.SmallTypes.nextOf (.ref it)) Q E s := by
  obtain ⟨o, ho, hc, hd⟩ := id hit
  unfold Builtin.SmallTypes.nextOf
  refine wpAny_bind (wpAny_callSpecial?_slot (name := PySem.Str.ofString "__next__") (KBw.iter_typeIs hit) KBw.slot_next
    (wpAny_call_entry KBw.slot_next (KBw.iter_typeIs hit) KBw.entry_next ?_ (KBw.args_next _)))
  show wpAny _ _ (field (.ref it) 0 >>= _) _ _ s
  refine wpAny_bind (wpAny_field ho hd (x := .bytes b t) rfl ?_)
  show wpAny _ _ (if (Value.bytes b t == Value.none) = true then _ else _) _ _ s
  rw [if_neg (show ¬ ((Value.bytes b t == Value.none) = true) from Bool.false_ne_true)]
  show wpAny _ _ (field (.ref it) 1 >>= _) _ _ s
  refine wpAny_bind (wpAny_field ho hd (x := .int i 0) rfl ?_)
  refine wpAny_bind (wpAny_of_eq (a := b) rfl ?_)
  simp only [Int.toNat_natCast, hx]
  refine wpAny_bind (wpAny_rule (wpAny_bind (wpAny_setField ho hd (by simp) ?_)))
  show wpAny _ _ (newExc (.type "StopIteration") [] >>= _) _ _ _
  refine wpAny_bind ?_
  simp only [newExc, newTuple]
  refine wpAny_bind (wpAny_newObj_type ?_ (by size_fits))
  refine wpAny_bind (m := firstArgMember _ _) (wpAny_of_eq (a := Value.none) (by first | rfl | (simp only [firstArgMember]; rfl)) ?_)
  refine wpAny_newObj_type ?_ (by size_fits)
  simp only [raiseNew]
  refine wpAny_bind (wpAny_handled ?_)
  first | rw [show A.in1.handled = none from hh] | rw [hh]
  refine wpAny_bind (wpAny_pure (wpAny_throw ?_))
  exact hE _ _ (((Heap.SameBut.update ..).extBut.push _).push _) ⟨_, Heap.get?_push_size _ rfl, rfl⟩
end
theorem drawsBytes {prog : Program} {w : World} {A : Around} (hh : A.handled = none) (it : Addr) (b : Array UInt8) (t : Tok) :
    Draws prog w A it [it] b.size (fun i v => ∃ c u, b[i]? = some c ∧ v = .int (c.toNat : Int) u) (fun i h => KBw.IsBytesIter h it b t i) where
  live := fun _ _ st => let ⟨o, ho, _⟩ := st; ⟨o, ho⟩
  frame := fun _ _ _ st hk => let ⟨o, ho, r⟩ := st; ⟨o, hk it (by simp) o ho, r⟩
  item := fun i s Q E hi st hQ => by
    refine nextOf_bytes_item st (c := b[i]) (by simp [hi]) fun h' hit' hs' => ?_
    exact hQ _ h' (s.toks + 1) ⟨_, _, by simp [hi], rfl⟩ hit' hs'
  done := fun s Q E st hE => nextOf_bytes_end hh st (by simp) hE
set_option maxHeartbeats 1000000 in
theorem meets_enum_bytes (b : Array UInt8) (t : Tok) :
    Meets (Builtin.«enumerate.__new__» ⟨[.type "enumerate", .bytes b t], []⟩) (fun _ R s =>
      R (.ok (.ret (.ref (s.heap.push { cls := .type "bytes_iterator", data := .fields #[.bytes b t, .int 0 0] }).objs.size)))
        { s with heap := (s.heap.push { cls := .type "bytes_iterator", data := .fields #[.bytes b t, .int 0 0] }).push { cls := .type "enumerate", data := .fields #[.none, .bool false, .ref s.heap.objs.size, rawInt 0, .none, .none] } }) :=
  .of_wp fun prog w A R s h => by
    obtain ⟨hp, g, d, tk, os⟩ := s
    have hsub := sub_enumerate
    wp_walk
    refine wpAny_stack_any fun st => wpAny_pure ?_
    split
    · rename_i c _ _ _ _ _
      cases (c == Value.type "enumerate")
      · wp_walk using KBw.pyIter_bytes
        exact ⟨_, rfl, h⟩
      · wp_walk using KBw.pyIter_bytes
        exact ⟨_, rfl, h⟩
    · wp_walk using KBw.pyIter_bytes
      exact ⟨_, rfl, h⟩
theorem call_enum_bytes {prog : Program} {w : World} {A : Around} {E : Value → Shared → Prop} {s : Shared} {b : Array UInt8} {t : Tok} {Q : Value → Shared → Prop}
    (h : ∀ h', IsEnum h' (s.heap.objs.size + 1) s.heap.objs.size 0 .none → KBw.IsBytesIter h' s.heap.objs.size b t 0 → h'.objs.size = s.heap.objs.size + 2 →
      (∀ b o, s.heap.get? b = some o → h'.get? b = some o) → Q (.ref (s.heap.objs.size + 1)) { s with heap := h' }) :
    wpAny (model prog w) A (call (.type "enumerate") [.bytes b t]) Q E s := by
  refine callType_new F.called_enumerate (by decide) (F.typeCall_enumerate_1 _) (F.newCall_enumerate_1 _) (fun obj => F.args_object_init_2 obj _) F.entry_enumerate_new
    (meets_enum_bytes b t) ?_
  have hz : (s.heap.push { cls := .type "bytes_iterator", data := .fields #[.bytes b t, .int 0 0] }).objs.size = s.heap.objs.size + 1 := Heap.size_push ..
  show _ ∧ _
  rw [hz]
  have he : IsEnum ((s.heap.push { cls := .type "bytes_iterator", data := .fields #[.bytes b t, .int 0 0] }).push
      { cls := .type "enumerate", data := .fields #[.none, .bool false, .ref s.heap.objs.size, rawInt 0, .none, .none] }) (s.heap.objs.size + 1) s.heap.objs.size 0 .none := by
    have := Heap.get?_push_size (s.heap.push { cls := .type "bytes_iterator", data := .fields #[.bytes b t, .int 0 0] })
      (o := { cls := .type "enumerate", data := .fields #[.none, .bool false, .ref s.heap.objs.size, rawInt 0, .none, .none] }) rfl
    rw [hz] at this; exact this
  refine ⟨⟨_, he, rfl⟩, h _ he ⟨_, Heap.get?_push_of_some _ (Heap.get?_push_size _ rfl), rfl, rfl⟩ (by rw [Heap.size_push, hz]) fun b o y => Heap.get?_push_of_some _ (Heap.get?_push_of_some _ y)⟩
end Mine
-- part Ci
namespace Mine
open Builtin
theorem ints_of {f : Nat → Int} : ∀ {n : Nat} {ys : List Value}, ys.length = n → (∀ i y, ys[i]? = some y → ∃ t, y = Value.int (f i) t) → IntsAre ys ((List.range n).map f) := by
  intro n
  induction n generalizing f with
  | zero => intro ys hl _; rw [List.length_eq_zero_iff.mp hl]; exact .nil
  | succ n ih =>
    intro ys hl h
    cases ys with
    | nil => simp at hl
    | cons y r =>
      obtain ⟨t, rfl⟩ := h 0 y rfl
      rw [List.range_succ_eq_map, List.map_cons, List.map_map]
      exact .cons _ t (ih (f := fun i => f (i + 1)) (by simpa using hl) fun i y e => h (i + 1) y (by simpa using e))
section
variable {prog : Program} {w : World} {A : Around} {E : Value → Shared → Prop} {s : Shared} {env : Env} {scope : Scope} {cl : List (Str × Addr)} {elt : PySem.Expr} {g : Heap} {L : Addr} {m : Str → Option Value} {news : List (Addr × Obj)}
  {fin : Shared → Heap → Nat → (Nat → Heap → Value → Prop) → Prop} {a b x : Str} {pa pb tp px : Pos} {kk : Nat}
/-- the ledger covers all that the heap holds beyond the base and the block's own names -/
def Cover (h₁ h : Heap) (C : Addr) (nw : List (Addr × Obj)) : Prop := ∀ b o, h.get? b = some o → b ≠ C → h₁.get? b = none → (b, o) ∈ nw
theorem cover_ex {h₁ h : Heap} {C : Addr} {m : Str → Option Value} (_F : Fr h₁ C h m) : ∃ nw, News h₁ C h nw ∧ Cover h₁ h C nw := by
  refine ⟨(List.range h.objs.size).filterMap fun b => if b = C ∨ (h₁.get? b).isSome = true then none else (h.get? b).map fun o => (b, o), fun p hp => ?_, fun b o e hb hn => ?_⟩
  · obtain ⟨b, _, e⟩ := List.mem_filterMap.mp hp
    split at e
    · cases e
    · rename_i hc
      obtain ⟨o, ho, rfl⟩ := Option.map_eq_some_iff.mp e
      rw [not_or] at hc
      refine ⟨ho, hc.1, ?_⟩
      cases q : h₁.get? b with
      | none => rfl
      | some o' => exact absurd (by show (h₁.get? b).isSome = true; rw [q]; rfl) hc.2
  · refine List.mem_filterMap.mpr ⟨b, List.mem_range.mpr (Heap.lt_size e), ?_⟩
    rw [if_neg (by rw [hn]; simpa using hb), e]; rfl
/-- what an element's tree must give -/
def El (prog : Program) (w : World) (A : Around) (elt : PySem.Expr) (cenv : Env) (C : Addr) (R : Heap → Value → Prop) (s' : Shared) : Prop :=
  ∀ E' : Value → Shared → Prop, wpAny (model prog w) A (eval elt cenv) (ElPost C s' R) E' s'
theorem ElPost.of {C : Addr} {s' : Shared} {R : Heap → Value → Prop} {y : Value} {h₁ h' : Heap} {tk : Nat} {m : Str → Option Value} {nw nw' : List (Addr × Obj)} (cv : Cover h₁ s'.heap C nw) (F : Fr h₁ C h' m) (N : News h₁ C h' nw') (sub : ∀ p ∈ nw, p ∈ nw')
    (r : ∀ h'', (∀ b o, s'.heap.get? b = none → h'.get? b = some o → h''.get? b = some o) → R h'' y) (F0 : ∀ b o, h₁.get? b = some o → s'.heap.get? b = some o) : ElPost C s' R y { s' with heap := h', toks := tk } := by
  refine ⟨h', tk, m, rfl, F.ns, fun b o hb e => ?_, r⟩
  cases q : h₁.get? b with
  | none => exact (N _ (sub _ (cv b o e hb q))).1
  | some o' =>
    have e1 := (F0 b o' q).symm.trans e
    cases e1
    exact F.keep b _ q
theorem ElPost.int {C : Addr} {s' : Shared} {f v : Int} {t : Tok} {h₁ h' : Heap} {tk : Nat} {m : Str → Option Value} {nw nw' : List (Addr × Obj)} (cv : Cover h₁ s'.heap C nw) (F0 : ∀ b o, h₁.get? b = some o → s'.heap.get? b = some o) (F : Fr h₁ C h' m) (N : News h₁ C h' nw') (sub : ∀ p ∈ nw, p ∈ nw') (e : v = f) :
    ElPost C s' (fun _ y => ∃ t, y = Value.int f t) (.int v t) { s' with heap := h', toks := tk } :=
  .of cv F N sub (fun _ _ => ⟨t, by rw [e]⟩) F0
theorem enumBytes_call {bs : Array UInt8} {tb : Tok} (hh : A.handled = none) (ha : scope.names.lookup a = some .local) (hb : scope.names.lookup b = some .local) (hab : a ≠ b) (hkind : scope.kind = .function)
    (F : Fr g L s.heap m) (N : News g L s.heap news) (hz : bs.size ≤ sizeLine) (R : Nat → Heap → Value → Prop)
    (el : ∀ i c t u C m' s', bs[i]? = some c → m' a = some (.int (i : Int) t) → m' b = some (.int (c.toNat : Int) u) → Fr s.heap C s'.heap m' → (∃ h tk, s' = { s with heap := h, toks := tk }) →
      El prog w A elt (compEnvC scope cl C env) C (R i) s')
    (hfin : ∀ s₂, (∃ h tk, s₂ = { s with heap := h, toks := tk }) → fin s₂ s.heap bs.size R) :
    wpAny (model prog w) A (call (.type "enumerate") [.bytes bs tb]) (fun xv s₁ => wpAny (model prog w) A (pyIter xv) (CompIt prog w A env scope cl elt (.Tuple [.Name a pa, .Name b pb] kk tp) g L m news fin) E s₁) E s := by
  refine call_enum_bytes fun h' he hi hsz hk => ?_
  refine wpAny_pyIter_enum he ?_
  have W := WalksT.toU (WalksT.enumerateD (drawsBytes (prog := prog) (w := w) (A := A.in1) hh s.heap.objs.size bs tb) (s.heap.objs.size + 1) (Nat.succ_ne_self _) (by simp) (by simp))
  have fresh : ∀ c, s.heap.objs.size ≤ c → s.heap.get? c = none := fun c hc => Heap.get?_none_of_le hc
  refine ⟨s.heap.objs.size + 1, _, _, bs.size, _, _, s.heap, R, rfl, Src.pair (P := fun i v0 v1 => ∃ t, v0 = .int i t ∧ ∃ c u, bs[i]? = some c ∧ v1 = .int (c.toNat : Int) u) hh W ?_ ?_ ha hb hab hkind, hz, ⟨⟨_, by simpa using he⟩, hi⟩, ?_, hk, ?_, ?_, F, N, ?_, hfin _ ⟨h', s.toks, rfl⟩⟩
  · rintro i vals ⟨t, x, ⟨c, u, hc, rfl⟩, rfl⟩
    exact ⟨_, _, rfl, t, rfl, c, u, hc, rfl⟩
  · rintro i h ⟨⟨old, he⟩, o, ho, _⟩ c hc
    rcases List.mem_cons.mp hc with rfl | hc
    · exact ⟨_, he⟩
    · rw [List.mem_singleton.mp hc]; exact ⟨_, ho⟩
  · intro c hc
    show c < h'.objs.size
    rw [hsz]
    rcases List.mem_cons.mp hc with rfl | hc
    · exact Nat.lt_succ_self _
    · rw [List.mem_singleton.mp hc]; exact Nat.lt_succ_of_lt (Nat.lt_succ_self _)
  · show _ ≤ h'.objs.size
    rw [hsz]; exact Nat.le_add_right _ _
  · intro c hc
    rcases List.mem_cons.mp hc with rfl | hc
    · exact fresh _ (Nat.le_succ _)
    · rw [List.mem_singleton.mp hc]; exact fresh _ (Nat.le_refl _)
  · rintro i C m' s' E' _ ⟨v0, v1, ⟨t, rfl, c, u, hc, rfl⟩, h0, h1⟩ F' ⟨h2, tk2, e2⟩
    exact el i c t u C m' s' hc h0 h1 F' ⟨h2, tk2, e2⟩ E'
theorem enumList_call {l : Addr} {items : Array Value} (hh : A.handled = none) (ha : scope.names.lookup a = some .local) (hb : scope.names.lookup b = some .local) (hab : a ≠ b) (hkind : scope.kind = .function)
    (F : Fr g L s.heap m) (N : News g L s.heap news) (hl : s.heap.IsList l items) (hz : items.size ≤ sizeLine) (R : Nat → Heap → Value → Prop)
    (el : ∀ i v t C m' s', items[i]? = some v → m' a = some (.int (i : Int) t) → m' b = some v → Fr s.heap C s'.heap m' → (∃ h tk, s' = { s with heap := h, toks := tk }) →
      El prog w A elt (compEnvC scope cl C env) C (R i) s')
    (hfin : ∀ s₂, (∃ h tk, s₂ = { s with heap := h, toks := tk }) → fin s₂ s.heap items.size R) :
    wpAny (model prog w) A (call (.type "enumerate") [.ref l]) (fun xv s₁ => wpAny (model prog w) A (pyIter xv) (CompIt prog w A env scope cl elt (.Tuple [.Name a pa, .Name b pb] kk tp) g L m news fin) E s₁) E s := by
  refine call_enumerate_list hl fun h' he hi hsz hk => ?_
  refine wpAny_pyIter_enum he ?_
  obtain ⟨ol, hol, _⟩ := id hl
  have hlt : l < s.heap.objs.size := Heap.lt_size hol
  have W := WalksT.toU (WalksT.enumerateD (Draws.list (prog := prog) (w := w) (A := A.in1) hh s.heap.objs.size l (Nat.ne_of_lt hlt) items) (s.heap.objs.size + 1) (Nat.succ_ne_self _) (by
    intro hm
    rcases List.mem_cons.mp hm with e | hm
    · exact Nat.succ_ne_self _ e
    · exact Nat.ne_of_gt (Nat.lt_succ_of_lt hlt) (List.mem_singleton.mp hm)) (by simp))
  have fresh : ∀ c, s.heap.objs.size ≤ c → s.heap.get? c = none := fun c hc => Heap.get?_none_of_le hc
  refine ⟨s.heap.objs.size + 1, _, _, items.size, _, _, s.heap, R, rfl, Src.pair (P := fun i v0 v1 => ∃ t, v0 = .int i t ∧ items[i]? = some v1) hh W ?_ ?_ ha hb hab hkind, hz, ⟨⟨_, by simpa using he⟩, hi, hl.at fun o e => hk l o e⟩, ?_, hk, ?_, ?_, F, N, ?_, hfin _ ⟨h', s.toks, rfl⟩⟩
  · rintro i vals ⟨t, x, hc, rfl⟩
    exact ⟨_, _, rfl, t, rfl, hc⟩
  · rintro i h ⟨⟨old, he⟩, ⟨o, ho, _⟩, _⟩ c hc
    rcases List.mem_cons.mp hc with rfl | hc
    · exact ⟨_, he⟩
    · rw [List.mem_singleton.mp hc]; exact ⟨_, ho⟩
  · intro c hc
    show c < h'.objs.size
    rw [hsz]
    rcases List.mem_cons.mp hc with rfl | hc
    · exact Nat.lt_succ_self _
    · rcases List.mem_cons.mp hc with rfl | hc
      · exact Nat.lt_succ_of_lt (Nat.lt_succ_self _)
      · rw [List.mem_singleton.mp hc]; exact Nat.lt_succ_of_lt (Nat.lt_succ_of_lt hlt)
  · show _ ≤ h'.objs.size
    rw [hsz]; exact Nat.le_add_right _ _
  · intro c hc
    rcases List.mem_cons.mp hc with rfl | hc
    · exact fresh _ (Nat.le_succ _)
    · rw [List.mem_singleton.mp hc]; exact fresh _ (Nat.le_refl _)
  · rintro i C m' s' E' _ ⟨v0, v1, ⟨t, rfl, hc⟩, h0, h1⟩ F' ⟨h2, tk2, e2⟩
    exact el i v1 t C m' s' hc h0 h1 F' ⟨h2, tk2, e2⟩ E'
theorem range_iter {r : Addr} {i j c : Int} {t u v : Tok} {n : Nat} (hh : A.handled = none) (hx : scope.names.lookup x = some .local) (hkind : scope.kind = .function)
    (F : Fr g L s.heap m) (N : News g L s.heap news) (hr : IsRange s.heap r i j c t u v) (hsm : Builtin.Range.small i j c = true) (hn : Builtin.Range.rangeSize i j c = ((n : Nat) : Int)) (hz : n ≤ sizeLine) (R : Nat → Heap → Value → Prop)
    (el : ∀ k t C m' s', k < n → m' x = some (.int (i + (k : Int) * c) t) → Fr s.heap C s'.heap m' → (∃ h tk, s' = { s with heap := h, toks := tk }) →
      El prog w A elt (compEnvC scope cl C env) C (R k) s')
    (hfin : ∀ s₂, (∃ h tk, s₂ = { s with heap := h, toks := tk }) → fin s₂ s.heap n R) :
    wpAny (model prog w) A (pyIter (.ref r)) (CompIt prog w A env scope cl elt (.Name x px) g L m news fin) E s := by
  refine wpAny_pyIter_range hr hsm ?_
  have up : Ext s.heap (s.heap.push { cls := .type "range_iterator", data := .fields #[.int i 0, .int (Builtin.Range.rangeSize i j c) 0, .int c 0] }) := fun b o e => Heap.get?_push_of_some _ e
  refine ⟨s.heap.objs.size, _, _, n, _, _, s.heap, R, rfl, Src.name (Walks.range (prog := prog) (w := w) hh s.heap.objs.size i c n) ?_ hx hkind, hz, ?_, ?_, fun b o e => Heap.get?_push_of_some _ e, ?_, ?_, F, N, ?_, hfin _ ⟨_, s.toks, rfl⟩⟩
  · intro k h st b hb
    rw [List.mem_singleton.mp hb]; exact ⟨_, st⟩
  · show IsRangeIter _ _ _ _ _
    rw [hn]; simpa using Heap.get?_push_size _ rfl
  · intro b hb
    rw [List.mem_singleton.mp hb]
    show _ < (s.heap.push _).objs.size
    rw [Heap.size_push]; exact Nat.lt_succ_self _
  · show _ ≤ (s.heap.push _).objs.size
    rw [Heap.size_push]; exact Nat.le_succ _
  · intro b hb
    rw [List.mem_singleton.mp hb]; exact Heap.get?_none_of_le (Nat.le_refl _)
  · rintro k C m' s' E' hk ⟨v, ⟨t, rfl⟩, h0⟩ F' ⟨h2, tk2, e2⟩
    exact el k t C m' s' hk h0 F' ⟨h2, tk2, e2⟩ E'
/-- a made list of pairs -/
theorem pairs_iter {l : Addr} {items : Array Value} {Ts : Nat → Addr} {v0 v1 : Nat → Value} (hh : A.handled = none) (ha : scope.names.lookup a = some .local) (hb : scope.names.lookup b = some .local) (hab : a ≠ b) (hkind : scope.kind = .function)
    (F : Fr g L s.heap m) (N : News g L s.heap news) (hl : s.heap.IsList l items) (hz : items.size ≤ sizeLine) (hT : ∀ j, j < items.size → items[j]? = some (.ref (Ts j)) ∧ s.heap.IsTuple (Ts j) #[v0 j, v1 j]) (R : Nat → Heap → Value → Prop)
    (el : ∀ i C m' s', i < items.size → m' a = some (v0 i) → m' b = some (v1 i) → Fr s.heap C s'.heap m' → (∃ h tk, s' = { s with heap := h, toks := tk }) →
      El prog w A elt (compEnvC scope cl C env) C (R i) s')
    (hfin : ∀ s₂, (∃ h tk, s₂ = { s with heap := h, toks := tk }) → fin s₂ s.heap items.size R) :
    wpAny (model prog w) A (pyIter (.ref l)) (CompIt prog w A env scope cl elt (.Tuple [.Name a pa, .Name b pb] kk tp) g L m news fin) E s := by
  obtain ⟨ol, hol, _⟩ := id hl
  have hlt : l < s.heap.objs.size := Heap.lt_size hol
  have hTlt : ∀ j, j < items.size → Ts j < s.heap.objs.size := fun j hj => by
    obtain ⟨_, o, ho, _⟩ := hT j hj
    exact Heap.lt_size ho
  refine wpAny_pyIter_list hl ?_
  have W := WalksU.listOfTuples (prog := prog) (w := w) hh s.heap.objs.size l (Nat.ne_of_lt hlt) items Ts (fun j => #[v0 j, v1 j]) (fun j hj => (hT j hj).1) (fun j hj => Nat.ne_of_lt (hTlt j hj))
  have W' := W.bound
  refine ⟨s.heap.objs.size, _, _, items.size, _, _, s.heap, R, rfl, Src.pair (P := fun i x y => i < items.size ∧ x = v0 i ∧ y = v1 i) hh W' ?_ ?_ ha hb hab hkind, hz, ⟨⟨_, Heap.get?_push_size _ rfl, rfl, rfl⟩, hl.push _, fun k hk => (hT k hk).2.push _⟩, ?_, fun b o e => Heap.get?_push_of_some _ e, ?_, ?_, F, N, ?_, hfin _ ⟨_, s.toks, rfl⟩⟩
  · rintro i vals ⟨hi, rfl⟩
    exact ⟨_, _, rfl, hi, rfl, rfl⟩
  · rintro i h ⟨⟨o, ho, _⟩, _⟩ c hc
    rw [List.mem_singleton.mp hc]; exact ⟨_, ho⟩
  · intro c hc
    show c < (s.heap.push _).objs.size
    rw [Heap.size_push]
    rcases List.mem_cons.mp hc with rfl | hc
    · exact Nat.lt_succ_self _
    · rcases List.mem_cons.mp hc with rfl | hc
      · exact Nat.lt_succ_of_lt hlt
      · obtain ⟨j, hj, rfl⟩ := List.mem_map.mp hc
        exact Nat.lt_succ_of_lt (hTlt j (List.mem_range.mp hj))
  · show _ ≤ (s.heap.push _).objs.size
    rw [Heap.size_push]; exact Nat.le_succ _
  · intro c hc
    rw [List.mem_singleton.mp hc]; exact Heap.get?_none_of_le (Nat.le_refl _)
  · rintro i C m' s' E' hi ⟨x, y, ⟨_, rfl, rfl⟩, h0, h1⟩ F' ⟨h2, tk2, e2⟩
    exact el i C m' s' hi h0 h1 F' ⟨h2, tk2, e2⟩ E'
end
end Mine
-- part B0
namespace Mine
structure Gd (w : World) (h : Heap) : Prop where
  X : (hd.heap_1 w.params).In h
  T : ∃ p loose mean mg mb, Top p loose mean mg mb h
theorem Gd.keeps {w : World} {h h' : Heap} (G : Gd w h) (k : Ext h h') : Gd w h' :=
  ⟨G.X.keeps k, let ⟨p, loose, mean, mg, mb, T⟩ := G.T; ⟨p, loose, mean, mg, mb, T.keeps k⟩⟩
noncomputable abbrev LvA (d : Nat) (fr : Option (List Env)) : Around := { handled := none, depth := d, frames := fr, guards := some [], units := 10 * d }
theorem wpAny_up {α : Type} {M : Model} {A A' : Around} {t : Sem α} {Q : α → Shared → Prop} {E : Value → Shared → Prop} {s : Shared}
    (h : wpAny M A' t Q E s) (hh : A.handled = A'.handled) (hd : A.depth ≤ A'.depth) (hf : A.frames = A'.frames) (hg : A.guards = A'.guards) (hu : A.units ≤ A'.units) : wpAny M A t Q E s :=
  fun Γ p hΓ => h Γ p ⟨hΓ.1.trans hh, Nat.le_trans hΓ.2.1 hd, fun l hl => hΓ.2.2.1 l (hf.trans hl), fun g hg' => hΓ.2.2.2.1 g (hg.trans hg'), Nat.le_trans hΓ.2.2.2.2 hu⟩
theorem enterP {w : World} {A : Around} {s : Shared} {K : Frag} {R : Result → Shared → Prop} {p : Program} {loose : List Str} {mean : ExcName → Option Value} {mg mb : Str → Option Value}
    {name qual : Str} {params : Arguments} {body : List Stmt} {scope : Scope} {dV kV doc pm cdv ct oc : Value} {an od : Option Addr} {osl : Array (Option Value)} {f : Addr} {args : Args} {binds : List (Str × Value)}
    (X : K.In s.heap) (T : Top p loose mean mg mb s.heap)
    (ho : K.lookup f = some ⟨oc, od, .func (fnOf name qual params body scope dV kV doc pm an cdv ct), osl⟩) (hcd : codeIn K cdv qual = true) (hroom : A.depth < recursionLimit)
    (hbind : BindsTo s (fnOf name qual params body scope dV kV doc pm an cdv ct) args binds) (hloc : ∀ y ∈ binds, scope.names.lookup y.1 = some .local)
    (h : ∀ L' h₁, Fr s.heap L' h₁ (fun y => binds.reverse.lookup y) → News s.heap L' h₁ [] →
      wpAny (model PySem.Challenge.rw_pb0583_01.row.prog w) (A.deeper (envOf qual scope L' f cdv)) (execs body (envOf qual scope L' f cdv))
        (fun fl s' => R (.ok (.ret (match fl with | .ret v => v | _ => .none))) s')
        (fun e s' => wpAny (model PySem.Challenge.rw_pb0583_01.row.prog w) (A.deeper (envOf qual scope L' f cdv)) (leaving (envOf qual scope L' f cdv) e) (fun _ s'' => R (.error e) s'') (fun e' s'' => R (.error e') s'') s')
        { s with heap := h₁, toks := s.toks + binds.length })
    (hco : scope.isCoroutine = false := by rfl) (hgen : scope.isGenerator = false := by rfl) (hk : scope.kind = .function := by rfl)
    (hcell : ∀ x ∈ scope.names, x.2 ≠ .cell := by decide) : codeAny (model PySem.Challenge.rw_pb0583_01.row.prog w) A (.call (.ref f) args) R s := by
  refine codeAny_call_def (fd := fnOf name qual params body scope dV kV doc pm an cdv ct) (body := body) (binds := binds) hroom (X _ _ ho) rfl T.nolimit (codeRec_of X hcd) rfl hbind hcell hloc (fun h₁ hns hk₁ => ?_) hco hgen hk
  exact h _ h₁ ⟨hns, hk₁, Nat.le_refl _⟩ News.nil
theorem enterPC {w : World} {A : Around} {s : Shared} {K : Frag} {R : Result → Shared → Prop} {p : Program} {loose : List Str} {mean : ExcName → Option Value} {mg mb : Str → Option Value}
    {name qual : Str} {params : Arguments} {body : List Stmt} {scope : Scope} {dV kV doc pm cdv ct oc : Value} {an od : Option Addr} {osl : Array (Option Value)} {f : Addr} {args : Args} {binds : List (Str × Value)}
    (X : K.In s.heap) (T : Top p loose mean mg mb s.heap)
    (ho : K.lookup f = some ⟨oc, od, .func (fnOf name qual params body scope dV kV doc pm an cdv ct), osl⟩) (hcd : codeIn K cdv qual = true) (hroom : A.depth < recursionLimit)
    (hbind : BindsTo s (fnOf name qual params body scope dV kV doc pm an cdv ct) args binds)
    (hkind : (binds.all fun y => scope.names.lookup y.1 == some .local || scope.names.lookup y.1 == some .cell) = true)
    (hnd : ((cellsFrom 0 scope.names []).map (·.1)).Nodup)
    {mL mC : Str → Option Value} (hmL : bindL (fun y => scope.names.lookup y) binds (fun _ => none) = mL) (hmC : bindC (fun y => scope.names.lookup y) binds (fun _ => none) = mC)
    (h : ∀ L' h₁ tk cells, Fr s.heap L' h₁ mL → News s.heap L' h₁ cells → CellsAre mC (cellsFrom (L' + 1) scope.names []) cells →
      wpAny (model PySem.Challenge.rw_pb0583_01.row.prog w) (A.deeper (envOfC qual scope L' f cdv)) (execs body (envOfC qual scope L' f cdv))
        (fun fl s' => R (.ok (.ret (match fl with | .ret v => v | _ => .none))) s')
        (fun e s' => wpAny (model PySem.Challenge.rw_pb0583_01.row.prog w) (A.deeper (envOfC qual scope L' f cdv)) (leaving (envOfC qual scope L' f cdv) e) (fun _ s'' => R (.error e) s'') (fun e' s'' => R (.error e') s'') s')
        { s with heap := h₁, toks := tk })
    (hco : scope.isCoroutine = false := by rfl) (hgen : scope.isGenerator = false := by rfl) (hk : scope.kind = .function := by rfl) : codeAny (model PySem.Challenge.rw_pb0583_01.row.prog w) A (.call (.ref f) args) R s := by
  refine codeAny_call_function hroom (X _ _ ho) rfl hco hgen rfl (codeRec_of X hcd) (hbind _ _ _ _ ?_)
  refine wpAny_newFunctionEnv_cells hk (kindsX hkind _) fun env' he s' x => ?_
  subst he
  refine ⟨T.nolimit.keeps x.toInCall.keep, codeAny_func ?_⟩
  obtain ⟨h₁, tk, rfl, _⟩ := x.done
  have hk₁ := x.toInCall.keep
  obtain ⟨cells, NC, Y⟩ := Cl.news (h₀ := s.heap) (Nat.le_refl _) fun n c hm => ⟨x.cell n c (lookup_of_mem_nodup (cellsFrom_names scope.names 0 (s.heap.objs.size + 1) [] [] rfl ▸ hnd) hm), x.above n c hm⟩
  subst hmL hmC
  exact h s.heap.objs.size h₁ tk cells ⟨x.toInCall.ns, hk₁, Nat.le_refl _⟩ NC Y
end Mine
-- part B1
namespace Mine
def Halt (P : Prop) : Prop := P
theorem Halt.mk {P : Prop} (h : Halt P) : P := h
theorem Halt.go {P : Prop} (h : P) : Halt P := h
section
variable {M : Model} {A : Around} {E : Value → Shared → Prop} {s : Shared} {K : Frag} {h₀ : Heap} {C : Addr} {m mg mb : Str → Option Value} {p : Program} {loose : List Str}
  {x : Str} {pos : Pos} {v : Value} {Q : Value → Shared → Prop} {scope : Scope} {cl : List (Str × Addr)} {env : Env} {c : Addr} {o : Obj}
theorem nmL (F : Fr h₀ C s.heap m) (hv : m x = some v) (h : Q v s)
    (hk : (compEnvC scope cl C env).scope.kind = .function := by rfl) (hx : (compEnvC scope cl C env).kindOf x = some .local := by rfl) (hd : (x == ("__debug__" : Str)) = false := by decide) :
    wpAny M A (eval (.Name x pos) (compEnvC scope cl C env)) Q E s := wpAny_Name (wpAny_loadName_local (env := compEnvC scope cl C env) hk hx F.ns hv h) hd
theorem nmG (F : Fr h₀ C s.heap m) (X : K.In h₀) (T : TopRead p loose mg mb h₀) (e : nsIn K mainGlobals x = some (some v)) (h : Q v s)
    (hg : env.globals = mainGlobals := by rfl) (hk : (compEnvC scope cl C env).scope.kind = .function := by rfl) (hx : (compEnvC scope cl C env).kindOf x = some .globalImplicit := by rfl) (hd : (x == ("__debug__" : Str)) = false := by decide) :
    wpAny M A (eval (.Name x pos) (compEnvC scope cl C env)) Q E s :=
  Name_function_global hk hx (loadGlobal_global (env := compEnvC scope cl C env) (by show s.heap.Ns env.globals _; rw [hg]; exact T.g.keeps F.keep) (mg_of X T.g e) h) hd
theorem nmB (F : Fr h₀ C s.heap m) (X : K.In h₀) (T : TopRead p loose mg mb h₀) (e : nsIn K mainGlobals x = some none) (hv : bootBuiltins x = some v) (hn : x ≠ "__name__") (h : Q v s)
    (hg : env.globals = mainGlobals := by rfl) (hb : env.builtins = builtinsNs := by rfl) (hk : (compEnvC scope cl C env).scope.kind = .function := by rfl) (hx : (compEnvC scope cl C env).kindOf x = some .globalImplicit := by rfl) (hd : (x == ("__debug__" : Str)) = false := by decide) :
    wpAny M A (eval (.Name x pos) (compEnvC scope cl C env)) Q E s :=
  Name_function_global hk hx (loadGlobal_builtin (env := compEnvC scope cl C env) (by show s.heap.Ns env.globals _; rw [hg]; exact T.g.keeps F.keep) (mg_none_of X T.g e) (by show s.heap.Ns env.builtins _; rw [hb]; exact T.b.keeps F.keep) ((T.builtins x hn).trans hv) h) hd
theorem nmC (F : Fr h₀ C s.heap m) (hc : cl.lookup x = some c) (ho : h₀.get? c = some o) (hd : o.data = .cell (some v)) (h : Q v s)
    (hk : (compEnvC scope cl C env).scope.kind = .function := by rfl) (hx : (compEnvC scope cl C env).kindOf x = some .cell := by rfl) (hb : (x == ("__debug__" : Str)) = false := by decide) :
    wpAny M A (eval (.Name x pos) (compEnvC scope cl C env)) Q E s := wpAny_Name (wpAny_loadName_cell (env := compEnvC scope cl C env) hk hx hc ⟨o, F.keep _ _ ho, hd⟩ h) hb
end
end Mine
namespace Mine
theorem atLv {α : Type} {M : Model} {A : Around} {d : Nat} {t : Sem α} {Q : α → Shared → Prop} {E : Value → Shared → Prop} {s : Shared}
    (h : wpAny M (LvA d A.frames) t Q E s) (hh : A.handled = none := by rfl) (hg : A.guards = some [] := by rfl) (hd : A.depth ≤ d := by exact Nat.le_of_ble_eq_true rfl) (hu : A.units ≤ 10 * d := by exact Nat.le_of_ble_eq_true rfl) : wpAny M A t Q E s :=
  wpAny_up h hh hd rfl hg hu
end Mine
namespace Mine
theorem news_add {g h h' : Heap} {L D : Addr} {m : Str → Option Value} {news : List (Addr × Obj)} {o : Obj} (F : Fr g L h m) (N : News g L h news) (k : Ext h h') (hD : h.get? D = none) (hD' : h'.get? D = some o) : News g L h' ((D, o) :: news) := by
  intro p hp
  rcases List.mem_cons.mp hp with rfl | hp
  · refine ⟨hD', fun q => ?_, ?_⟩
    · obtain ⟨oL, _, _, hoL, _⟩ := F.ns
      have q' : D = L := q
      rw [q', hoL] at hD; cases hD
    · cases q : g.get? D with
      | none => rfl
      | some o' => have := F.keep D o' q; rw [hD] at this; cases this
  · exact ⟨k _ _ (N p hp).1, (N p hp).2⟩
theorem news_ne {g h : Heap} {L D : Addr} {news : List (Addr × Obj)} (N : News g L h news) (hD : h.get? D = none) : ∀ p ∈ news, p.1 ≠ D := fun p hp q => by
  have := (N p hp).1
  rw [q, hD] at this; cases this
end Mine
namespace Mine
noncomputable def tup2 (a : Int) (t : Tok) (b : Int) (u : Tok) : Obj := { cls := .type "tuple", data := .seq #[.int a t, .int b u] }
theorem cover_fresh {h₁ h : Heap} {C D : Addr} {nw : List (Addr × Obj)} (cv : Cover h₁ h C nw) (hC : D ≠ C) (h1 : h₁.get? D = none) (l1 : ∀ p ∈ nw, p.1 < D) : h.get? D = none := by
  cases q : h.get? D with
  | none => rfl
  | some o => exact absurd (l1 _ (cv D o q hC h1)) (Nat.lt_irrefl _)
theorem ElPost.tup {C D : Addr} {s' : Shared} {a b : Int} {t u : Tok} {h₁ h' : Heap} {tk : Nat} {m : Str → Option Value} {nw : List (Addr × Obj)} (cv : Cover h₁ s'.heap C nw) (F0 : ∀ b o, h₁.get? b = some o → s'.heap.get? b = some o)
    (F : Fr h₁ C h' m) (N : News h₁ C h' ((D, tup2 a t b u) :: nw)) (l1 : ∀ p ∈ nw, p.1 < D) :
    ElPost C s' (fun h y => ∃ T t u, y = .ref T ∧ h₁.get? T = none ∧ h.get? T = some (tup2 a t b u)) (.ref D) { s' with heap := h', toks := tk } := by
  have nD := N (D, tup2 a t b u) (by simp)
  exact .of cv F N (fun _ e => List.mem_cons_of_mem _ e) (fun h'' k => ⟨D, t, u, rfl, nD.2.2, k _ _ (cover_fresh cv nD.2.1 nD.2.2 l1) nD.1⟩) F0
/-- the pairs of a made list, as a part of the ledger -/
theorem pairs_ledger {g h5 h6 : Heap} {L : Addr} {m : Str → Option Value} {ys : List Value} {a b : Nat → Int} (F : Fr g L h5 m) (hR : ∀ i y, ys[i]? = some y → ∃ T t u, y = Value.ref T ∧ h5.get? T = none ∧ h6.get? T = some (tup2 (a i) t (b i) u)) :
    ∃ (tl : List (Addr × Obj)) (Ts : Nat → Addr) (tt uu : Nat → Tok), News g L h6 tl ∧ ∀ j, j < ys.length → ys[j]? = some (.ref (Ts j)) ∧ (Ts j, tup2 (a j) (tt j) (b j) (uu j)) ∈ tl := by
  have : ∀ j, ∃ x : Addr × Tok × Tok, j < ys.length → ys[j]? = some (.ref x.1) ∧ h5.get? x.1 = none ∧ h6.get? x.1 = some (tup2 (a j) x.2.1 (b j) x.2.2) := fun j => by
    by_cases hj : j < ys.length
    · obtain ⟨T, t, u, e1, e2, e3⟩ := hR j ys[j] (by simp [hj])
      exact ⟨(T, t, u), fun _ => ⟨by rw [← e1]; simp [hj], e2, e3⟩⟩
    · exact ⟨(0, 0, 0), fun h => absurd h hj⟩
  obtain ⟨f, hf⟩ := Classical.axiomOfChoice this
  refine ⟨(List.range ys.length).map fun j => ((f j).1, tup2 (a j) (f j).2.1 (b j) (f j).2.2), fun j => (f j).1, fun j => (f j).2.1, fun j => (f j).2.2, fun p hp => ?_, fun j hj => ⟨(hf j hj).1, List.mem_map.mpr ⟨j, List.mem_range.mpr hj, rfl⟩⟩⟩
  obtain ⟨j, hj, rfl⟩ := List.mem_map.mp hp
  have hj' := List.mem_range.mp hj
  obtain ⟨_, e2, e3⟩ := hf j hj'
  refine ⟨e3, fun q => ?_, ?_⟩
  · obtain ⟨oL, _, _, hoL, _⟩ := F.ns
    have q' : (f j).1 = L := q
    rw [q', hoL] at e2; cases e2
  · cases q : g.get? (f j).1 with
    | none => rfl
    | some o' => have := F.keep _ o' q; rw [e2] at this; cases this
theorem News.app {g h : Heap} {L : Addr} {n1 n2 : List (Addr × Obj)} (a : News g L h n1) (b : News g L h n2) : News g L h (n1 ++ n2) := fun p hp => (List.mem_append.mp hp).elim (a p) (b p)
end Mine
namespace Mine
noncomputable def tup4 (a : Int) (t : Tok) (b : Int) (u : Tok) (c : Int) (v : Tok) (d : Int) (x : Tok) : Obj := { cls := .type "tuple", data := .seq #[.int a t, .int b u, .int c v, .int d x] }
end Mine
-- part B2
namespace Mine
/-- all but these addresses is kept -/
def Exo (as : List Addr) (h h' : Heap) : Prop := ∀ b o, b ∉ as → h.get? b = some o → h'.get? b = some o
theorem fr_exo {g h h' : Heap} {L : Addr} {m : Str → Option Value} {as : List Addr} (F : Fr g L h m) (k : Exo as h h') (ha : ∀ a ∈ as, g.get? a = none ∧ a ≠ L) : Fr g L h' m :=
  ⟨F.ns.at' fun o e => k L o (fun q => (ha L q).2 rfl) e, fun b o e => k b o (fun q => by rw [(ha b q).1] at e; cases e) (F.keep b o e), F.above⟩
theorem news_exo {g h h' : Heap} {L : Addr} {news : List (Addr × Obj)} {as : List Addr} (N : News g L h news) (k : Exo as h h') (ha : ∀ p ∈ news, p.1 ∉ as) : News g L h' news :=
  fun p hp => ⟨k _ _ (ha p hp) (N p hp).1, (N p hp).2⟩
theorem gd_hide {w : World} {g h : Heap} {L : Addr} {m : Str → Option Value} {mu : List (Addr × Obj)} (G : Gd w g) (F : Fr g L h m) (N : News g L h mu) : Gd w (hideAll h (mu.map (·.1))) :=
  G.keeps fun b o e => hideAll_get _ (F.keep b o e) fun q => by
    obtain ⟨p, hp, rfl⟩ := List.mem_map.mp q
    rw [(N p hp).2.2] at e; cases e
theorem exo_hide {h h' : Heap} {as : List Addr} (k : Ext (hideAll h as) h') : Exo as h h' := fun b o n e => k b o (hideAll_get _ e n)
/-- entering a def that changes objects: they stand in the ledger -/
theorem enterM {w : World} {A : Around} {s : Shared} {K : Frag} {R : Result → Shared → Prop} {p : Program} {loose : List Str} {mean : ExcName → Option Value} {mg mb : Str → Option Value} {mu : List (Addr × Obj)}
    {name qual : Str} {params : Arguments} {body : List Stmt} {scope : Scope} {dV kV doc pm cdv ct oc : Value} {an od : Option Addr} {osl : Array (Option Value)} {f : Addr} {args : Args} {binds : List (Str × Value)}
    (hmu : ∀ q ∈ mu, s.heap.get? q.1 = some q.2) (X : K.In (hideAll s.heap (mu.map (·.1)))) (T : Top p loose mean mg mb (hideAll s.heap (mu.map (·.1))))
    (ho : K.lookup f = some ⟨oc, od, .func (fnOf name qual params body scope dV kV doc pm an cdv ct), osl⟩) (hcd : codeIn K cdv qual = true) (hroom : A.depth < recursionLimit)
    (hbind : BindsTo s (fnOf name qual params body scope dV kV doc pm an cdv ct) args binds) (hloc : ∀ y ∈ binds, scope.names.lookup y.1 = some .local)
    (h : ∀ L' h₁, Fr (hideAll s.heap (mu.map (·.1))) L' h₁ (fun y => binds.reverse.lookup y) → News (hideAll s.heap (mu.map (·.1))) L' h₁ mu → (∀ q ∈ mu, q.1 < L') →
      wpAny (model PySem.Challenge.rw_pb0583_01.row.prog w) (A.deeper (envOf qual scope L' f cdv)) (execs body (envOf qual scope L' f cdv))
        (fun fl s' => R (.ok (.ret (match fl with | .ret v => v | _ => .none))) s')
        (fun e s' => wpAny (model PySem.Challenge.rw_pb0583_01.row.prog w) (A.deeper (envOf qual scope L' f cdv)) (leaving (envOf qual scope L' f cdv) e) (fun _ s'' => R (.error e) s'') (fun e' s'' => R (.error e') s'') s')
        { s with heap := h₁, toks := s.toks + binds.length })
    (hco : scope.isCoroutine = false := by rfl) (hgen : scope.isGenerator = false := by rfl) (hk : scope.kind = .function := by rfl)
    (hcell : ∀ x ∈ scope.names, x.2 ≠ .cell := by decide) : codeAny (model PySem.Challenge.rw_pb0583_01.row.prog w) A (.call (.ref f) args) R s := by
  have st : Ext (hideAll s.heap (mu.map (·.1))) s.heap := fun b o e => of_hideAll _ e
  refine codeAny_call_def (fd := fnOf name qual params body scope dV kV doc pm an cdv ct) (body := body) (binds := binds) hroom ((X.keeps st) _ _ ho) rfl (T.nolimit.keeps st) (codeRec_of (X.keeps st) hcd) rfl hbind hcell hloc (fun h₁ hns hk₁ => ?_) hco hgen hk
  exact h _ h₁ ⟨hns, fun b o e => hk₁ b o (st b o e), Nat.le_of_eq (hideAll_size _ _)⟩
    (fun q hq => ⟨hk₁ _ _ (hmu q hq), Nat.ne_of_lt (Heap.lt_size (hmu q hq)), hideAll_none _ (List.mem_map_of_mem hq)⟩) (fun q hq => Heap.lt_size (hmu q hq))
noncomputable abbrev baObj (b : Array UInt8) : Obj := { cls := .type "bytearray", data := .bytearray b 0 }
end Mine
-- part C1
namespace Mine
noncomputable def cellv (ns : List Int) (i : Int) : Int := if i < (ns.length : Int) then ns.getD i.toNat 0 else 7 * i + 3
set_option maxHeartbeats 4000000 in
theorem law_cell_spec {w : World} {fr : Option (List Env)} {s : Shared} {Q E : Value → Shared → Prop} {a : Addr} {vs : List Value} {ns : List Int} {i : Int} {ti : Tok}
    (G : Gd w s.heap) (hl : s.heap.IsList a vs.toArray) (hi : IntsAre vs ns) (h0 : 0 ≤ i) (hi2 : i < 1000) (hn : ns.length < 1000)
    (ret : ∀ v t h' tk, v = cellv ns i → Ext s.heap h' → Q (.int v t) { s with heap := h', toks := tk }) :
    wpAny (model PySem.Challenge.rw_pb0583_01.row.prog w) (LvA 500 fr) (call (.ref 301) [.ref a, .int i ti]) Q E s := by
  obtain ⟨X, p, loose, mean, mg, mb, T⟩ := G
  revert X; k_fill; intro X
  refine wpAny_call ?_
  refine' enterP (binds := [("script", .ref a), ("at", .int i ti)]) ?k1 ?k2 ?k3 ?k4 ?k5 ?k6 ?k7 ?_ ?c2 ?c3 ?c4 ?c5
  (k_dflt ((case k1 => k_asm); (case k2 => k_asm); (case k3 => k_is); (case k4 => k_is); (case k5 => exact Nat.le_of_ble_eq_true rfl); (case k6 => first | exact BindsTo.of_eq rfl | exact binds_K (by k_in) rfl (by k_is) rfl rfl rfl); (case k7 => exact locs rfl); (case c2 => exact rfl); (case c3 => exact rfl); (case c4 => exact rfl); (case c5 => decide)))
  intro L' h' F' N'
  k_steps
  · rename Fr _ _ _ _ => F
    exact ret _ _ _ _ (by unfold cellv; rw [if_pos (by omega)]) F.keep
  · rename Fr _ _ _ _ => F
    exact ret _ _ _ _ (by unfold cellv; rw [if_neg (by omega)]) F.keep
end Mine
-- part Rf
namespace Mine
theorem hide_fresh {h : Heap} {as : List Addr} {D : Addr} (e : (hideAll h as).get? D = none) (n : D ∉ as) : h.get? D = none := by
  cases z : h.get? D with
  | none => rfl
  | some o => rw [hideAll_get _ z n] at e; cases e
theorem halt_post {α : Type} {M : Model} {A : Around} {t : Sem α} {Q : α → Shared → Prop} {E : Value → Shared → Prop} {s : Shared} (h : wpAny M A t (fun a s' => Halt (Q a s')) E s) : wpAny M A t Q E s := h
section
variable {prog : Program} {w : World} {A : Around} {s : Shared} {env : Env} {g : Heap}
noncomputable abbrev rgIt (x left step : Int) : Obj := { cls := .type "range_iterator", dict := none, data := .fields #[rawInt x, rawInt left, rawInt step], slots := #[] }
/-- a for over a range by an invariant of the frame's map and the ledger -/
theorem for_range {Q : Flow → Shared → Prop} {x : Str} {px : Pos} {body : List Stmt} {r : Addr} {a b c : Int} {t u v : Tok} {n : Nat} {m : Str → Option Value} {led : List (Addr × Obj)}
    (J : Nat → (Str → Option Value) → List (Addr × Obj) → Prop) (hJ : ∀ i m' l', J i m' l' → l'.map (·.1) = led.map (·.1))
    (hh : A.handled = none) (hx : env.kindOf x = some .local) (hp : (env.scope.kind == .class || (env.scope.kind == .module && env.locals != env.globals)) = false)
    (F : Fr g env.locals s.heap m) (N : News g env.locals s.heap led) (hr : IsRange s.heap r a b c t u v) (hsm : Builtin.Range.small a b c = true) (hn : Builtin.Range.rangeSize a b c = (n : Int)) (h0 : J 0 m led)
    (turn : ∀ i m' led' h tk I tI, i < n → J i m' led' → (∀ q ∈ led', @LT.lt Nat _ q.1 I) → Fr g env.locals h (fun y => if y = x then some (.int (a + (i : Nat) * c) tI) else m' y) → News g env.locals h ((I, rgIt (a + (i : Nat) * c + c) ((n : Int) - (i : Nat) - 1) c) :: led') →
      wpAny (model prog w) A (execs body env) (fun f s' => ∃ h' tk' m'' led'', f = .next ∧ s' = { s with heap := h', toks := tk' } ∧ Fr g env.locals h' m'' ∧ News g env.locals h' ((I, rgIt (a + (i : Nat) * c + c) ((n : Int) - (i : Nat) - 1) c) :: led'') ∧ J (i + 1) m'' led'') (fun _ _ => False) { s with heap := h, toks := tk })
    (done : ∀ m' led' h tk, J n m' led' → Fr g env.locals h m' → News g env.locals h led' → Q .next { s with heap := h, toks := tk }) :
    wpAny (model prog w) A (pyIter (.ref r)) (fun it s₂ => codeAny (model prog w) A (.forLoop (.Name x px) it body [] env) (fun r s' => match r with | .ok f => Q f s' | .error e => cameBackBy (model prog w) A env (fun _ _ => False) e s') s₂) (fun _ _ => False) s := by
  refine wpAny_pyIter_range hr hsm ?_
  have up : Ext s.heap (s.heap.push { cls := .type "range_iterator", data := .fields #[rawInt a, rawInt (Builtin.Range.rangeSize a b c), rawInt c] }) := fun b o e => Heap.get?_push_of_some _ e
  have it0 : IsRangeIter (s.heap.push { cls := .type "range_iterator", data := .fields #[rawInt a, rawInt (Builtin.Range.rangeSize a b c), rawInt c] }) s.heap.objs.size a n c := by rw [hn]; exact Heap.get?_push_size _ rfl
  have lI : ∀ q ∈ led, @LT.lt Nat _ q.1 s.heap.objs.size := fun q hq => Heap.lt_size (N q hq).1
  have lL : @LT.lt Nat _ env.locals s.heap.objs.size := F.ns.lt
  have gI : g.get? s.heap.objs.size = none := by
    cases z : g.get? s.heap.objs.size with
    | none => rfl
    | some o => exact absurd (Heap.lt_size (F.keep _ _ z)) (Nat.lt_irrefl _)
  have F0 := fr_exo (as := []) F (fun b o _ e => up b o e) (fun a ha => by cases ha)
  have N0 : News g env.locals _ led := fun q hq => ⟨up _ _ (N q hq).1, (N q hq).2⟩
  generalize s.heap.push { cls := .type "range_iterator", data := .fields #[rawInt a, rawInt (Builtin.Range.rangeSize a b c), rawInt c] } = h1 at it0 F0 N0 ⊢
  clear up
  generalize s.heap.objs.size = I at it0 lI lL gI ⊢
  have lts : ∀ {i m' l'}, J i m' l' → ∀ q ∈ l', @LT.lt Nat _ q.1 I := fun j q hq => by
    have := List.mem_map_of_mem (f := (·.1)) hq
    rw [hJ _ _ _ j] at this
    obtain ⟨q', hq', e⟩ := List.mem_map.mp this
    have := lI q' hq'
    rw [e] at this; exact this
  refine codeAny_forLoop (fun k s' => ∃ h' tk m' l' i, s' = { s with heap := h', toks := tk } ∧ IsRangeIter h' I (a + (i : Nat) * c) ((n : Int) - (i : Nat)) c ∧ Fr g env.locals h' m' ∧ News g env.locals h' l' ∧ J i m' l' ∧ i ≤ n ∧ k = n + 1 - i) ?_ (n + 1)
    ⟨h1, s.toks, m, led, 0, rfl, by simpa using it0, F0, N0, h0, Nat.zero_le _, rfl⟩
  rintro k s' ⟨h', tk, m', l', i, rfl, hit', F', N', hj, hi, rfl⟩
  have off : ∀ {h h2 : Heap} {m2 : Str → Option Value}, Heap.ExtBut I h h2 → Fr g env.locals h m2 → News g env.locals h l' → Fr g env.locals h2 m2 ∧ News g env.locals h2 l' := fun e F N => by
    have k : Exo [I] _ _ := fun q o n e' => e q o (fun z => n (by simp [z])) e'
    exact ⟨fr_exo F k fun q hq => by rw [List.mem_singleton.mp hq]; exact ⟨gI, Nat.ne_of_gt lL⟩, news_exo N k fun q hq z => by have := lts hj q hq; rw [List.mem_singleton.mp z] at this; exact Nat.lt_irrefl _ this⟩
  by_cases hlt : i < n
  · refine wpAny_pyNext_range_item hit' (by omega) fun h₁ hit₁ hs₁ => ?_
    obtain ⟨F1, N1⟩ := off hs₁.extBut F' N'
    refine wpAny_assign_Name (wpAny_storeName_local hx F1.ns (fun h₂ hn₂ hs₂ => ?_) hp)
    have F2 := F1.set hn₂ hs₂
    have N2 : News g env.locals h₂ ((I, rgIt (a + (i : Nat) * c + c) ((n : Int) - (i : Nat) - 1) c) :: l') := List.forall_mem_cons.mpr ⟨⟨(hs₂.2 I (Nat.ne_of_gt lL)).trans hit₁, Nat.ne_of_gt lL, gI⟩, N1.set hs₂⟩
    refine wpAny_mono (turn i m' l' h₂ _ I _ hlt hj (lts hj) F2 N2) (fun f s₃ h₃ => ?_) fun _ _ e => e.elim
    obtain ⟨h4, tk4, m4, l4, rfl, rfl, F4, N4, j4⟩ := h₃
    refine ⟨n + 1 - (i + 1), by omega, h4, tk4, m4, l4, i + 1, rfl, ?_, F4, fun q hq => N4 q (List.mem_cons_of_mem _ hq), j4, hlt, rfl⟩
    have e1 : a + ((i + 1 : Nat) : Int) * c = a + (i : Int) * c + c := by push_cast; rw [Int.add_mul, Int.one_mul, Int.add_assoc]
    have e2 : (n : Int) - ((i + 1 : Nat) : Int) = (n : Int) - (i : Int) - 1 := by push_cast; omega
    rw [e1, e2]
    exact (N4 _ List.mem_cons_self).1
  · have hin : i = n := by omega
    subst hin
    refine wpAny_pyNext_range_end hh hit' (by omega) fun h₁ he₁ => wpAny_execs_nil ?_
    obtain ⟨F1, N1⟩ := off he₁ F' N'
    exact done m' l' h₁ tk hj F1 N1
end
end Mine
-- part Lb
open Sem (wp)
namespace Mine
theorem bytes_len : typeLookup (.type "bytes") "__len__" = pure (some (.builtin "bytes.__len__")) := by rw [typeLookup_type, builtinLookup_eq_fast]; kernel_rfl
section
variable {prog : Program} {w : World} {A : Around} {E : Value → Shared → Prop} {s : Shared}
def OctAt (b : Array UInt8) (i : Nat) (v : Value) : Prop := ∃ c u, b[i]? = some c ∧ v = .int (c.toNat : Int) u
theorem extend_bytes {R : Result → Shared → Prop} (hh : A.handled = none) (b : Array UInt8) (t : Tok) (S : Addr) (res : Value) (c₀ : Nat) (hS : s.heap.get? S = some { cls := .type "list", data := .seq #[] c₀ })
    (hR : ∀ h' tk acc' c', (∀ b o, b ≠ S → s.heap.get? b = some o → h'.get? b = some o) → h'.get? S = some { cls := .type "list", dict := none, data := .seq acc' c', slots := #[] } →
      ItemsOf (OctAt b) acc' b.size → R (.ok (.ret res)) { s with heap := h', toks := tk }) (hn : b.size ≤ sizeLine) :
    wpAny (model prog w) A.in1 (Builtin.List.listExtendWith (.ref S) (.bytes b t) res)
      (fun fin s' => match fin with | .done f => R (.ok f) s' | .again c' => c'.quiet = true ∧ codeAny (model prog w) A c' R s') (fun e s' => R (.error e) s') s := by
  have hSI : S ≠ s.heap.objs.size := Nat.ne_of_lt (Heap.lt_size hS)
  have hSf : S ∉ [s.heap.objs.size] := fun hm => hSI (List.mem_singleton.mp hm)
  unfold Builtin.List.listExtendWith
  refine wpAny_bind (wpAny_typeOf (T := "bytes") (v := .bytes b t) (typeIs_bytes _ _ _) ?_)
  have h1 : Builtin.List.listSameRef (.ref S) (.bytes b t) = false := rfl
  have h2 : (Value.type "bytes" == Value.type "list") = false := by decide
  have h3 : (Value.type "bytes" == Value.type "tuple") = false := by decide
  simp only [h1, h2, h3, Bool.or_false, Bool.false_eq_true, if_false]
  refine wpAny_bind (KBw.pyIter_bytes ?_)
  have hst : KBw.IsBytesIter (s.heap.push { cls := .type "bytes_iterator", data := .fields #[.bytes b t, .int 0 0] }) s.heap.objs.size b t 0 := ⟨_, Heap.get?_push_size _ rfl, rfl, rfl⟩
  refine wpAny_bind (wpAny_holding ?_)
  unfold Builtin.List.listLengthHint
  refine wpAny_bind (wpAny_specialOf (T := "bytes") (v := .bytes b t) (typeIs_bytes _ _ _) bytes_len ?_)
  wp_delta
  refine wpAny_bind (wpAny_isInstance (T := "bytes") (v := .bytes b t) (b := true) (typeIs_bytes _ _ _) (by rw [isSubtype_type]; kernel_rfl) ?_)
  show wpAny _ _ (typeOf (Value.bytes b t) >>= _) _ _ _
  refine wpAny_bind (wpAny_typeOf (T := "bytes") (v := .bytes b t) (typeIs_bytes _ _ _) ?_)
  refine wpAny_pure ?_
  rw [if_neg (by decide)]
  refine wpAny_pure ⟨plainId_quiet F.plain_extend_loop _, codeAny_extend_loopS (KBw.walks (A := A.in1) hh s.heap.objs.size b t).toS hn _ hSf _ b.size 0 _ _ _ rfl (Nat.zero_le _) hst (Heap.get?_push_of_some _ hS) (ItemsOf.nil _) fun s' acc' c' hm hS' hacc => ?_⟩
  rw [Moved.eq_with hm]
  refine hR s'.heap s'.toks acc' c' (fun b ob hb e => hm.heap b ob (fun hmem => ?_) (Heap.get?_push_of_some _ e)) hS' hacc
  rcases List.mem_cons.mp hmem with e' | hmem
  · exact hb e'
  · exact absurd (Heap.lt_size e) (by rw [List.mem_singleton.mp hmem]; exact Nat.lt_irrefl _)
theorem ints_of_items {b : Array UInt8} {acc : Array Value} (h : ItemsOf (OctAt b) acc b.size) : IntsAre acc.toList (KBw.bInts b) := by
  have e : KBw.bInts b = (List.range b.size).map fun i => (KBw.bInts b).getD i 0 := by
    apply List.ext_getElem?
    intro i
    by_cases hi : i < b.size
    · rw [List.getElem?_map, List.getElem?_range hi]
      have : i < (KBw.bInts b).length := by rw [KBw.ints_length]; exact hi
      simp [List.getD_eq_getElem?_getD, List.getElem?_eq_getElem this]
    · rw [List.getElem?_eq_none (by rw [KBw.ints_length]; omega), List.getElem?_eq_none (by simp; omega)]
  rw [e]
  refine ints_of (by simpa using h.1) fun i y hy => ?_
  obtain ⟨c, u, hc, rfl⟩ := h.2 i y (by simpa using hy)
  exact ⟨u, by rw [getD_ints hc]⟩
/-- list(bytes) -/
theorem list_of_bytes {b : Array UInt8} {t : Tok} {Q : Value → Shared → Prop} {g : Heap} {L : Addr} {m : Str → Option Value} {news : List (Addr × Obj)} (hh : A.handled = none) (Fh : Fr g L s.heap m) (N : News g L s.heap news)
    (h : ∀ D ys n h' tk, IntsAre ys (KBw.bInts b) → Fr g L h' m → News g L h' ((D, W.listOf ys.toArray n) :: news) → (∀ q ∈ news, @LT.lt Nat _ q.1 D) → Q (.ref D) { s with heap := h', toks := tk }) (hn : b.size ≤ sizeLine) :
    wpAny (model prog w) A (call (.type "list") [.bytes b t]) Q E s := by
  refine callType_codes (Q₁ := fun obj s₁ => obj = .ref s.heap.objs.size ∧ s₁ = { s with heap := s.heap.push { cls := .type "list", data := .seq #[] } }) F.called_list (F.typeCall_list_1 _) F.entry_list_init
    (code_list_new _ ⟨rfl, rfl⟩) fun obj s₁ h₁ => ?_
  obtain ⟨rfl, rfl⟩ := h₁
  have hS : (s.heap.push { cls := .type "list", data := .seq #[] }).get? s.heap.objs.size = some { cls := .type "list", data := .seq #[] } := Heap.get?_push_size _ rfl
  refine ⟨⟨_, hS, rfl⟩, F.args_list_init_2 _ _, ?_⟩
  show wpAny _ _ (do let old ← Builtin.List.listItems (.ref s.heap.objs.size); Builtin.List.listUpdate (.ref s.heap.objs.size) (fun _ => #[]); letGo old.toList.reverse; Builtin.List.listExtendWith (.ref s.heap.objs.size) (.bytes b t) .none) _ _ _
  refine wpAny_bind ?_
  unfold Builtin.List.listItems
  refine wpAny_bind (wpAny_seqItems hS rfl (wpAny_pure ?_))
  show wpAny _ _ (updateSeq s.heap.objs.size (fun _ => #[]) >>= fun _ => letGo (#[] : Array Value).toList.reverse >>= fun _ => Builtin.List.listExtendWith (.ref s.heap.objs.size) (.bytes b t) .none) _ _ _
  refine wpAny_bind (wpAny_updateSeq hS rfl ?_)
  have hS₂ := Heap.get?_update_self (Obj.mapSeq (fun _ => (#[] : Array Value))) hS rfl
  have oth : ∀ b o, b ≠ s.heap.objs.size → (s.heap.push { cls := .type "list", data := .seq #[] }).get? b = some o → ((s.heap.push { cls := .type "list", data := .seq #[] }).update s.heap.objs.size (Obj.mapSeq (fun _ => (#[] : Array Value)))).get? b = some o :=
    fun b o hb e => (Heap.get?_update_other _ _ (Ne.symm hb)).trans e
  refine wpAny_bind (wpAny_letGo ?_)
  refine extend_bytes (A := A.in1) hh b t _ .none _ hS₂ (fun h' tk acc' c' hk hS' hacc => ⟨rfl, ?_⟩) hn
  have up : Ext s.heap h' := fun q o e => hk q o (Nat.ne_of_lt (Heap.lt_size e)) (oth q o (Nat.ne_of_lt (Heap.lt_size e)) (Heap.get?_push_of_some _ e))
  have hD : s.heap.get? s.heap.objs.size = none := Heap.get?_none_of_le (Nat.le_refl _)
  have F' := fr_exo (as := []) Fh (fun b o _ e => up b o e) (fun a ha => by cases ha)
  exact h _ acc'.toList c' h' tk (ints_of_items hacc) F' (news_add Fh N up hD hS') fun q hq => Heap.lt_size (N q hq).1
end
end Mine
-- part P0
namespace Mine
/-- what a bytearray asks of the stack -/
noncomputable def exAt (v : Value) (l : List (Code × Pos)) : Bool := match Builtin.Bytes.exported v with
  | .stack k => (match k l with | .pure b => b | _ => true)
  | _ => true
theorem exAt_cons (v : Value) (x : Code × Pos) (l : List (Code × Pos)) : exAt v (x :: l) = (exAt v [x] || exAt v l) := by
  show (_ || _) = ((_ || false) || _)
  rw [Bool.or_false]; rfl
def CleanC (c : Code) : Prop := ∀ v p, exAt v [(c, p)] = false
def Clean (Γ : Ctx) : Prop := ∀ v p, exAt v ((Γ.code, p) :: Γ.below) = false
theorem Clean.enter {Γ : Ctx} (h : Clean Γ) (c : Code) (hd : Option Value) (p : Pos) (hc : CleanC c) : Clean (Γ.enter c hd p) := fun v p' => by
  show exAt v ((c, p') :: (Γ.code, p) :: Γ.below) = false
  rw [exAt_cons, hc v p', h v p]; rfl
theorem Clean.goto {Γ : Ctx} (h : Clean Γ) (c : Code) (hc : CleanC c) : Clean (Γ.goto c) := fun v p' => by
  show exAt v ((c, p') :: Γ.below) = false
  have := h v p'
  rw [exAt_cons, Bool.or_eq_false_iff] at this
  rw [exAt_cons, hc v p', this.2]; rfl
def wpP {α : Type} (M : Model) (A : Around) (t : Sem α) (Q : α → Shared → Prop) (E : Value → Shared → Prop) (s : Shared) : Prop :=
  ∀ Γ p, Γ.In A → Clean Γ → Sem.wp M Γ t (fun a _ s' => Q a s') (fun e _ s' => E e s') p s
def codeP (M : Model) (A : Around) (c : Code) (R : Result → Shared → Prop) (s : Shared) : Prop :=
  ∀ Γ p, Γ.code = c → Γ.Below A → Clean Γ → wpCode M Γ R p s
section
variable {α β : Type} {M : Model} {A : Around} {E : Value → Shared → Prop} {s : Shared}
theorem wpP.any {t : Sem α} {Q : α → Shared → Prop} (h : wpAny M A t Q E s) : wpP M A t Q E s := fun Γ p hΓ _ => h Γ p hΓ
theorem codeP.any {c : Code} {R : Result → Shared → Prop} (h : codeAny M A c R s) : codeP M A c R s := fun Γ p hc hΓ _ => h Γ p hc hΓ
theorem wpP.mono {t : Sem α} {Q Q' : α → Shared → Prop} {E' : Value → Shared → Prop} (h : wpP M A t Q E s) (hQ : ∀ a s, Q a s → Q' a s) (hE : ∀ e s, E e s → E' e s) : wpP M A t Q' E' s :=
  fun Γ p hΓ hC => Sem.wp_mono M Γ t (fun a _ s => hQ a s) (fun e _ s => hE e s) p s (h Γ p hΓ hC)
/-- a post, given a name -/
theorem opqP {t : Sem α} {Q : α → Shared → Prop} (h : ∀ Q' : α → Shared → Prop, Q' = Q → wpP M A t Q' E s) : wpP M A t Q E s := h Q rfl
theorem opqPE {t : Sem α} {Q : α → Shared → Prop} (h : ∀ (Q' : α → Shared → Prop) (E' : Value → Shared → Prop), Q' = Q → E' = E → wpP M A t Q' E' s) : wpP M A t Q E s := h Q E rfl rfl
theorem opqA {t : Sem α} {Q : α → Shared → Prop} (h : ∀ Q' : α → Shared → Prop, Q' = Q → wpAny M A t Q' E s) : wpAny M A t Q E s := h Q rfl
theorem wpP.bind {m : Sem α} {f : α → Sem β} {Q : β → Shared → Prop} (h : wpP M A m (fun a s' => wpP M A (f a) Q E s') E s) : wpP M A (m >>= f) Q E s := fun Γ p hΓ hC => by
  rw [Sem.wp_bind']
  exact Sem.wp_mono M Γ m (fun a p' s' h' => h' Γ p' hΓ hC) (fun _ _ _ h' => h') p s (h Γ p hΓ hC)
/-- a first part that any context lets through -/
theorem wpP.bindA {m : Sem α} {f : α → Sem β} {Q : β → Shared → Prop} (h : wpAny M A m (fun a s' => wpP M A (f a) Q E s') E s) : wpP M A (m >>= f) Q E s := .bind (.any h)
theorem wpP.ret {a : α} {Q : α → Shared → Prop} (h : Q a s) : wpP M A (pure a) Q E s := .any (wpAny_pure h)
theorem wpP.stand {pos : Pos} {f : Unit → Sem β} {Q : β → Shared → Prop} (h : wpP M A (f ()) Q E s) : wpP M A (standAt pos >>= f) Q E s := .bindA (wpAny_standAt h)
theorem wpP.held {vs : List Value} {m : Sem α} {Q : α → Shared → Prop} (h : wpP M A m Q E s) : wpP M A (holding vs m) Q E s := fun Γ p hΓ hC => by rw [Sem.wp_holding]; exact h Γ p hΓ hC
theorem wpP.kept {vs : List Value} {m : Sem α} {Q : α → Shared → Prop} (h : wpP M A m Q E s) : wpP M A (m.keep vs) Q E s := fun Γ p hΓ hC => by rw [Sem.wp_keep]; exact h Γ p hΓ hC
theorem wpP.operated {vs : List Value} {m : Sem Value} {Q : Value → Shared → Prop} (h : wpP M A m Q E s) : wpP M A (operate vs m) Q E s := fun Γ p hΓ hC => by rw [Sem.wp_operate]; exact h Γ p hΓ hC
theorem wpP.attempted {m : Sem α} {Q : Except Value α → Shared → Prop} (h : wpP M A m (fun a => Q (.ok a)) (fun e => Q (.error e)) s) : wpP M A m.attempt Q E s := fun Γ p hΓ hC => by rw [Sem.wp_attempt]; exact h Γ p hΓ hC
theorem wpP.raising {m : Sem α} {k : Value → Sem Unit} {Q : α → Shared → Prop} (h : wpP M A m Q (fun e s' => wpAny M A (k e) (fun _ s'' => E e s'') E s') s) : wpP M A (m.onRaise k) Q E s := fun Γ p hΓ hC => by
  rw [Sem.wp_onRaise]
  exact Sem.wp_mono M Γ m (fun _ _ _ h' => h') (fun e p' s' h' => h' Γ p' hΓ) p s (h Γ p hΓ hC)
theorem wpP.ran {c : Code} {h : Option Value} {Q : Flow → Shared → Prop} (hc : codeP M (A.mark h) c (fun r s' => match r with | .ok f => Q f s' | .error e => E e s') s) (hcl : CleanC c) (hnb : h ≠ some byPass := by intro x; cases x) : wpP M A (run c h) Q E s :=
  fun Γ p hΓ hC => by rw [Sem.wp_run]; exact hc _ p rfl (hΓ.enter c h p hnb) (hC.enter c h p hcl)
theorem wpP.called {f : Value} {pos : List Value} {kw : List (Str × Value)} {Q : Value → Shared → Prop}
    (hc : codeP M A (.call f ⟨pos, kw⟩) (fun r s' => match r with | .ok (.ret v) => Q v s' | .ok _ => False | .error e => E e s') s) : wpP M A (call f pos kw) Q E s :=
  fun Γ p hΓ hC => by unfold PySem.call; rw [Sem.wp_runValue]; exact hc _ p rfl (hΓ.enter _ none p (by intro x; cases x)) (hC.enter _ none p fun _ _ => rfl)
theorem wpP.ranValue {c : Code} {Q : Value → Shared → Prop}
    (hc : codeP M A c (fun r s' => match r with | .ok (.ret v) => Q v s' | .ok _ => False | .error e => E e s') s) (hcl : CleanC c) : wpP M A (runValue c) Q E s :=
  fun Γ p hΓ hC => by rw [Sem.wp_runValue]; exact hc _ p rfl (hΓ.enter _ none p (by intro x; cases x)) (hC.enter _ none p hcl)
theorem codeP.mono {c : Code} {R R' : Result → Shared → Prop} (h : codeP M A c R s) (hR : ∀ r s, R r s → R' r s) : codeP M A c R' s := fun Γ p hc hΓ hC => wpCode_mono hR (h Γ p hc hΓ hC)
theorem codeP.tree {c : Code} {R : Result → Shared → Prop}
    (h : wpP M (A.under c) (M.den c) (fun fin s' => match fin with | .done f => R (.ok f) s' | .again c' => c'.quiet = true ∧ CleanC c' ∧ codeP M A c' R s') (fun e s' => R (.error e) s') s) : codeP M A c R s := fun Γ p hc hΓ hC => by
  rw [wpCode_iff_wp, hc]
  refine Sem.wp_mono M Γ _ (fun fin p' s' h' => ?_) (fun _ _ _ h' => h') p s (h Γ p (hc ▸ hΓ.in) hC)
  cases fin with
  | done f => exact h'
  | again c' => exact ⟨h'.1, h'.2.2 (Γ.goto c') p' rfl (hΓ.goto c') (hC.goto c' h'.2.1)⟩
theorem wpP.exported {v : Value} {Q : Bool → Shared → Prop} (h : Q false s) : wpP M A (Builtin.Bytes.exported v) Q E s := fun Γ p _ hC => by
  show Q (exAt v ((Γ.code, p) :: Γ.below)) s
  rw [hC v p]; exact h
end
end Mine
-- part P1
namespace Mine
section
variable {α β : Type} {M : Model} {A : Around} {E : Value → Shared → Prop} {s : Shared} {env : Env}
theorem wpP.nil {Q : Flow → Shared → Prop} (h : Q .next s) : wpP M A (execs [] env) Q E s := .any (wpAny_execs_nil h)
theorem wpP.cons {st : Stmt} {rest : List Stmt} {Q : Flow → Shared → Prop} (h : wpP M A (exec st env) (fun f s' => match f with | .next => wpP M A (execs rest env) Q E s' | f => Q f s') E s) : wpP M A (execs (st :: rest) env) Q E s := by
  rw [execs_cons]
  refine .bind (h.mono (fun f s' h' => ?_) fun _ _ h' => h')
  cases f <;> first | exact h' | exact .ret h'
/-- a statement that any context lets through -/
theorem wpP.step {st : Stmt} {rest : List Stmt} {Q : Flow → Shared → Prop} (h : wpAny M A (exec st env) (fun f s' => match f with | .next => wpP M A (execs rest env) Q E s' | f => Q f s') E s) : wpP M A (execs (st :: rest) env) Q E s := .cons (.any h)
theorem wpP.stExpr {e : Expr} {pos : Pos} {Q : Flow → Shared → Prop} (h : wpP M A (eval e env) (fun v s' => (∀ a, v ≠ .ref a) ∧ Q .next s') E s)
    (hi : interactive env = false := by rfl) (hs : swapsWith e none pos.line env = pure false := by rfl) : wpP M A (exec (.Expr e pos) env) Q E s := by
  rw [exec_Expr env e pos hi hs]
  refine .stand (.bind (h.mono (fun v s' h' => ?_) fun _ _ x => x))
  rw [dropValue_plain h'.1]
  exact .ret h'.2
theorem wpP.stAssign {x : Str} {pos' pos : Pos} {value : Expr} {Q : Flow → Shared → Prop} (h : wpP M A (eval value env) (fun v s₁ => wpAny M A (storeName env x v) (fun _ => Q .next) E s₁) E s)
    (hs : swapsWith value (some (.Name x pos')) pos.line env = pure false := by rfl) : wpP M A (exec (.Assign [.Name x pos'] value pos) env) Q E s := by
  rw [exec_Assign_Name env x pos' value pos hs]
  refine .stand (.bind (h.mono (fun v s₁ h₁ => .any ?_) fun _ _ x => x))
  exact wpAny_bind (wpAny_standAt (wpAny_bind (wpAny_bindName (wpAny_mono h₁ (fun _ _ h' => wpAny_pure h') fun _ _ x => x))))
theorem wpP.stIf {test : Expr} {body orelse : List Stmt} {pos : Pos} {Q : Flow → Shared → Prop}
    (h : wpP M A (isTrue test env (eval test env)) (fun b s₂ => if b then wpP M A (execs body env) Q E s₂ else wpP M A (execs orelse env) Q E s₂) E s) : wpP M A (exec (.If test body orelse pos) env) Q E s := by
  rw [exec_If]
  refine .stand (.bind (h.mono (fun b s₂ h₂ => ?_) fun _ _ x => x))
  cases b <;> exact h₂
theorem wpP.stReturn {e : Expr} {pos : Pos} {Q : Flow → Shared → Prop} (h : wpP M A (eval e env) (fun v => Q (.ret v)) E s) : wpP M A (exec (.Return (some e) pos) env) Q E s := by
  rw [exec_Return_some]
  exact .stand (.bind (h.mono (fun v s₁ h₁ => .ret h₁) fun _ _ x => x))
theorem wpP.evBinOp {l r : Expr} {op : Operator} {pos : Pos} {Q : Value → Shared → Prop}
    (h : wpP M A (eval l env) (fun a s₁ => wpP M A (eval r env) (fun b s₂ => wpAny M A (binaryOp op a b) Q E s₂) E s₁) E s) : wpP M A (eval (.BinOp l op r pos) env) Q E s := by
  rw [eval_BinOp]
  exact .bind (h.mono (fun a s₁ h₁ => .bind (.held (h₁.mono (fun b s₂ h₂ => .stand (.operated (.any h₂))) fun _ _ x => x))) fun _ _ x => x)
theorem wpP.evCompare {l r : Expr} {op : CmpOp} {pos : Pos} {Q : Value → Shared → Prop}
    (h : wpP M A (eval l env) (fun a s₁ => wpAny M A (eval r env) (fun b s₂ => wpAny M A (compareOp op a b) Q E s₂) E s₁) E s) (hm : behindInMarks op r = false := by with_unfolding_all rfl) : wpP M A (eval (.Compare l [op] [r] pos) env) Q E s := by
  rw [eval_Compare1, markedBehindIn_of_false hm]
  exact .bind (h.mono (fun a s₁ h₁ => .bind (.held (.any (wpAny_mono h₁ (fun b s₂ h₂ => .stand (.operated (.any h₂))) fun _ _ x => x)))) fun _ _ x => x)
theorem wpP.isCompare {l r : Expr} {op : CmpOp} {pos : Pos} {whole : Sem Value} {Q : Bool → Shared → Prop}
    (h : wpP M A (eval l env) (fun a s₁ => wpAny M A (eval r env) (fun b s₂ => wpAny M A (compareOp op a b) (fun c s₃ => wpAny M A (truthy c) Q E s₃) E s₂) E s₁) E s) (hm : behindInMarks op r = false := by with_unfolding_all rfl) :
    wpP M A (isTrue (.Compare l [op] [r] pos) env whole) Q E s := by
  rw [isTrue_Compare1, markedBehindIn_of_false hm]
  exact .bind (h.mono (fun a s₁ h₁ => .bind (.held (.any (wpAny_mono h₁ (fun b s₂ h₂ => .stand (.bind (.operated (.any (wpAny_mono h₂ (fun c s₃ h₃ => .held (.any h₃)) fun _ _ x => x))))) fun _ _ x => x)))) fun _ _ x => x)
theorem wpP.isNot {x : Expr} {pos : Pos} {whole : Sem Value} {Q : Bool → Shared → Prop} (h : wpP M A (isTrue x env (eval x env)) (fun b => Q (!b)) E s) : wpP M A (isTrue (.UnaryOp .Not x pos) env whole) Q E s := by
  have e : isTrue (.UnaryOp .Not x pos) env whole = (isTrue x env (eval x env) >>= fun b => pure (!b)) := rfl
  rw [e]
  exact .bind (h.mono (fun b s₁ h₁ => .ret h₁) fun _ _ x => x)
theorem wpP.isCall {f : Expr} {args : List Expr} {kws : List Keyword} {pos : Pos} {Q : Bool → Shared → Prop}
    (h : wpP M A (eval (.Call f args kws pos) env) (fun v s₁ => wpAny M A (truthy v) Q E s₁) E s) : wpP M A (isTrue (.Call f args kws pos) env (eval (.Call f args kws pos) env)) Q E s := by
  have e : isTrue (.Call f args kws pos) env (eval (.Call f args kws pos) env) = (do let v ← eval (.Call f args kws pos) env; standAt (Expr.pos (.Call f args kws pos)); PySem.holding [v] (truthy v)) := rfl
  rw [e]
  exact .bind (h.mono (fun b s₁ h₁ => .stand (.held (.any h₁))) fun _ _ x => x)
theorem wpP.isOr {x : Expr} {rest : List Expr} {Q : Bool → Shared → Prop} (h : wpP M A (isTrue x env (eval x env)) (fun b s₁ => if b then Q true s₁ else wpP M A (allTrue .Or rest env) Q E s₁) E s) : wpP M A (allTrue .Or (x :: rest) env) Q E s := by
  have e : allTrue .Or (x :: rest) env = (isTrue x env (eval x env) >>= fun b => match BoolOp.Or, b with | .And, false => pure false | .Or, true => pure true | _, _ => allTrue .Or rest env) := rfl
  rw [e]
  refine .bind (h.mono (fun b s₁ h₁ => ?_) fun _ _ x => x)
  cases b
  · exact h₁
  · exact .ret h₁
theorem wpP.isOrNil {Q : Bool → Shared → Prop} (h : Q false s) : wpP M A (allTrue .Or [] env) Q E s := .ret h
theorem wpP.isBool {op : PySem.BoolOp} {vs : List Expr} {pos : Pos} {whole : Sem Value} {Q : Bool → Shared → Prop} (h : wpP M A (allTrue op vs env) Q E s) : wpP M A (isTrue (.BoolOp op vs pos) env whole) Q E s := h
theorem wpP.evAnd2 {a b : Expr} {pos : Pos} {Q : Value → Shared → Prop} (h : wpP M A (eval a env) (fun v s₁ => wpAny M A (truthy v) (fun t s₂ => if t then wpP M A (eval b env) Q E s₂ else Q v s₂) E s₁) E s) :
    wpP M A (eval (.BoolOp .And [a, b] pos) env) Q E s := by
  have e : eval (.BoolOp .And [a, b] pos) env = (do let v ← eval a env; PySem.standAt pos; let t ← PySem.holding [v] (truthy v); match BoolOp.And, t with | .And, false | .Or, true => pure v | _, _ => eval b env) := rfl
  rw [e]
  refine .bind (h.mono (fun v s₁ h₁ => .stand (.bind (.held (.any (wpAny_mono h₁ (fun t s₂ h₂ => ?_) fun _ _ x => x))))) fun _ _ x => x)
  cases t
  · exact .ret h₂
  · exact h₂
theorem wpP.calledWith {pos : Pos} {f : Value} {first : List Value} {Q : Value → Shared → Prop} {P : Heap → Prop} {args : List (Bool × Sem Value)} {keywords : List (Option Str × Sem Value)} (hplain : (args.any (·.1) || keywords.any (·.1.isNone)) = false)
    (hk : ∀ h, P h → ∃ k, (k = Keeper.frame ∨ k = Keeper.machine ∨ k = Keeper.boundFrame) ∧ Looks M h (keeperOf f) k)
    (h : wpP M A (evalArgs f true args keywords) (fun a s₁ => P s₁.heap ∧ wpP M A (PySem.call f (first ++ a.pos) a.kw) Q E s₁) E s) : wpP M A (callWith pos f first args keywords) Q E s := by
  unfold PySem.callWith
  refine .bind (.held (h.mono (fun a s₁ h₁ => .stand ?_) fun _ _ x => x))
  obtain ⟨k, hk', L⟩ := hk _ h₁.1
  simp only [hplain]
  refine .bindA (L.here ?_)
  have tail : ∀ {t : Sem Value}, wpP M A t Q E s₁ → wpP M A (t >>= fun r => PySem.holding [r] point >>= fun _ => pure r) Q E s₁ :=
    fun ht => .bind (ht.mono (fun r s₂ hr => .bindA (wpAny_holding (wpAny_point (.ret hr)))) fun _ _ x => x)
  have marked (mk : Value) : wpP M A (callMarked mk f (first ++ a.pos) a.kw) Q E s₁ := by unfold callMarked; exact .kept h₁.2
  rcases hk' with rfl | rfl | rfl <;> dsimp only <;> first | exact tail h₁.2 | (split <;> first | exact tail h₁.2 | exact tail (marked _))
theorem wpP.spliced1 {x : Sem Value} {Q : List Value → Shared → Prop} (h : wpP M A x (fun v s₁ => Q [v] s₁) E s) : wpP M A (spliced [(false, x)]) Q E s := by
  rw [spliced]
  refine .bind (h.mono (fun v s₁ h₁ => ?_) fun _ _ x => x)
  simp only [Bool.false_eq_true, if_false]
  exact .bindA (wpAny_pure (.bind (.held (.any (wpAny_pure (.ret h₁))))))
theorem wpP.evalArgs1 {f : Value} {x : Sem Value} {Q : Args → Shared → Prop} (h : wpP M A x (fun v s' => Q ⟨[v], []⟩ s') E s) : wpP M A (evalArgs f true [(false, x)] []) Q E s := by
  unfold evalArgs
  show wpP M A (spliced [(false, x)] >>= _) Q E s
  refine .bind ((wpP.spliced1 (Q := fun vs s' => Q ⟨vs, []⟩ s') h).mono (fun vs s' h' => ?_) fun _ _ x => x)
  exact .held (.bindA (wpAny_pure (.bindA (wpAny_pure (.ret h')))))
theorem wpP.method {o : Expr} {name : Str} {apos pos : Pos} {args : List Expr} {kws : List Keyword} {pl : Sem Bool} {Q : Value → Shared → Prop}
    (h : wpAny M A (eval o env) (fun ov s₁ => wpAny M A (getMethod ov name pl) (fun fx s₂ => wpP M A (PySem.callWith pos fx.1 fx.2 (backTo pos (starEach args env)) (backToKw pos (keywordEach kws env))) Q E s₂) E s₁) E s)
    (he : eval (.Call (.Attribute o name apos) args kws pos) env = (do
      let ov ← eval o env
      PySem.standAt apos.atName
      let (f, first) ← PySem.holding [ov] (getMethod ov name pl)
      PySem.callWith pos f first (backTo pos (starEach args env)) (backToKw pos (keywordEach kws env))) := by rfl) :
    wpP M A (eval (.Call (.Attribute o name apos) args kws pos) env) Q E s := by
  rw [he]
  exact .bindA (wpAny_mono h (fun ov s₁ h₁ => .stand (.bindA (wpAny_holding (wpAny_mono h₁ (fun fx s₂ h₂ => h₂) fun _ _ x => x)))) fun _ _ x => x)
theorem wpP.callName {x : Str} {npos pos : Pos} {args : List Expr} {kws : List Keyword} {Q : Value → Shared → Prop}
    (h : wpAny M A (eval (.Name x npos) env) (fun f s₁ => wpP M A (PySem.callWith pos f [] (backTo pos (starEach args env)) (backToKw pos (keywordEach kws env))) Q E s₁) E s) :
    wpP M A (eval (.Call (.Name x npos) args kws pos) env) Q E s := by
  have e : eval (.Call (.Name x npos) args kws pos) env = (do PySem.callWith pos (← eval (.Name x npos) env) [] (backTo pos (starEach args env)) (backToKw pos (keywordEach kws env))) := rfl
  rw [e]
  exact .bindA h
end
section
variable {w : World} {A : Around} {s : Shared} {prog : Program}
theorem codeP.func {R : Result → Shared → Prop} {body : List Stmt} {env : Env}
    (h : wpP (model prog w) (A.deeper env) (execs body env) (fun f s' => R (.ok (.ret (match f with | .ret v => v | _ => .none))) s')
      (fun e s' => wpAny (model prog w) (A.deeper env) (leaving env e) (fun _ s'' => R (.error e) s'') (fun e' s'' => R (.error e') s'') s') s) : codeP (model prog w) A (.func body env) R s := by
  refine .tree ?_
  show wpP _ (A.deeper env) (do point; match ← (execs body env).onRaise (leaving env) with | .ret v => ret v | _ => ret .none) _ _ s
  refine .bindA (wpAny_point (.bind (.raising (h.mono (fun f s' h' => ?_) fun _ _ h' => h'))))
  cases f <;> exact .ret h'
theorem codeP.fn {R : Result → Shared → Prop} {a : Addr} {args : Args} {o : Obj} {fd : FuncData} {body : List Stmt} (hroom : A.depth < recursionLimit)
    (ho : s.heap.get? a = some o) (hd' : o.data = .func fd) (hco : fd.scope.isCoroutine = false) (hgen : fd.scope.isGenerator = false) (hbody : fd.body = .stmts body) (hcd : s.heap.CodeRec fd.code fd.qualname)
    (h : wpAny (model prog w) A.in1 (bindArgs fd args) (fun binds s₁ => wpAny (model prog w) A.in1 (newFunctionEnv fd.scope fd.globals fd.closure binds (fd.qualname ++ ".<locals>.") (some a) fd.code none fd.builtins)
        (fun env s₂ => s₂.heap.NoLimit ∧ codeP (model prog w) A (.func body env) R s₂) (fun e s' => R (.error e) s') s₁) (fun e s' => R (.error e) s') s) : codeP (model prog w) A (.call (.ref a) args) R s := by
  refine .tree ?_
  show wpP _ A.in1 (callAny (.ref a) args) _ _ s
  simp only [callAny]
  refine .bindA (wpAny_load ho ?_)
  obtain ⟨c, oc, vs, tq, hc, hoc, hdc, hq⟩ := hcd
  simp only [hd', callFunction, hco, hgen, hbody, hc]
  rw [hc] at h
  refine .bindA (m := field (.ref c) 1) (wpAny_field hoc hdc hq (.bindA (wpAny_pure ?_)))
  exact .bindA (wpAny_mono h (fun binds s₁ h₁ => .bindA (wpAny_mono h₁ (fun env s₂ h₂ => .bindA (wpAny_enterFrame h₂.1 hroom (.ret ⟨rfl, fun _ _ => rfl, h₂.2⟩))) fun _ _ h' => h')) fun _ _ h' => h')
end
end Mine
-- part P2
namespace Mine
theorem ba_mro : mroOf (.type "bytearray") = pure [.type "bytearray", .type "object"] := by rw [mroOf_type]; kernel_rfl
theorem ba_lookup_new : typeLookup (.type "bytearray") "__new__" = pure (some (.builtin "bytearray.__new__")) := by rw [typeLookup_type, builtinLookup_eq_fast]; kernel_rfl
theorem ba_init : Slot "bytearray" "__init__" "bytearray.__init__" :=
  .of (owner := "bytearray") (n := "__init__") (by rw [typeLookup_type, builtinLookup_eq_fast]; kernel_rfl) (by decide +kernel) (by decide +kernel) (by decide +kernel)
    (by first | exact .inl (by decide +kernel) | exact .inr (by decide +kernel)) (by rw [isSubtype_type]; kernel_rfl)
theorem ba_extend : Slot "bytearray" "extend" "bytearray.extend" :=
  .of (owner := "bytearray") (n := "extend") (by rw [typeLookup_type, builtinLookup_eq_fast]; kernel_rfl) (by decide +kernel) (by decide +kernel) (by decide +kernel)
    (by first | exact .inl (by decide +kernel) | exact .inr (by decide +kernel)) (by rw [isSubtype_type]; kernel_rfl)
theorem ba_sub : isSubtype (.type "bytearray") (.type "bytearray") = pure true := by rw [isSubtype_type]; kernel_rfl
theorem ba_called : TypeCalled "bytearray" "bytearray.__new__" "bytearray.__init__" :=
  ⟨by decide +kernel, by decide +kernel, ⟨_, _, ba_mro⟩, madeBy_type ba_mro ba_lookup_new (by decide +kernel), by decide +kernel, ba_sub, ba_init⟩
theorem ba_newCall : checkBuiltinCall "bytearray.__new__" ⟨[.type "bytearray"], []⟩ = pure () := by kernel_rfl
theorem ba_entryNew : entryFor table "bytearray.__new__" = some Builtin.«list.__new__» := entryFor_alias (id' := "list.__new__") (by kernel_rfl) (by decide +kernel) (by decide +kernel) (by kernel_rfl)
theorem ba_entryInit : entryFor table "bytearray.__init__" = some Builtin.«bytearray.__init__» := entryFor_of_tree (by kernel_rfl)
theorem ba_entryExtend : entryFor table "bytearray.extend" = some Builtin.«bytearray.extend» := entryFor_of_tree (by kernel_rfl)
theorem ba_owner : ("bytearray.__new__".splitOn ".__new__").headD "" = "bytearray" := by simp +decide [String.splitOn, String.splitOnAux]
theorem ba_entryC : entryFor table "type.__call__" = some Builtin.«type.__call__» := F.entry_type_call
theorem clean_of {id : String} {a : Value} {rest : List Value} {kw : List (Str × Value)} (h : ∀ v p, exAt v [(.builtin id ⟨a :: rest, kw⟩, p)] = (Builtin.Bytes.sameRef a v && false || false)) : CleanC (.builtin id ⟨a :: rest, kw⟩) := fun v p => by
  rw [h, Bool.and_false]; rfl
theorem clean_call (a : Value) (rest : List Value) (kw : List (Str × Value)) : CleanC (.builtin "type.__call__" ⟨a :: rest, kw⟩) := clean_of fun v p => by kernel_rfl
theorem clean_init (a : Value) (rest : List Value) (kw : List (Str × Value)) : CleanC (.builtin "bytearray.__init__" ⟨a :: rest, kw⟩) := clean_of fun v p => by kernel_rfl
theorem clean_extend (a : Value) (rest : List Value) (kw : List (Str × Value)) : CleanC (.builtin "bytearray.extend" ⟨a :: rest, kw⟩) := clean_of fun v p => by kernel_rfl
theorem clean_oinit (a : Value) (rest : List Value) (kw : List (Str × Value)) : CleanC (.builtin "object.__init__" ⟨a :: rest, kw⟩) := clean_of fun v p => by kernel_rfl
theorem ba_release : typeLookup (.type "bytearray") "__release_buffer__" = pure (some (.builtin "bytearray.__release_buffer__")) := by rw [typeLookup_type, builtinLookup_eq_fast]; kernel_rfl
end Mine
-- part P3
namespace Mine
section
variable {prog : Program} {w : World} {M : Model} {A : Around} {E : Value → Shared → Prop} {s : Shared} {a : Addr} {b : Array UInt8}
theorem ba_type (ho : s.heap.get? a = some (baObj b)) : s.TypeIs (.ref a) "bytearray" := ⟨_, ho, rfl⟩
theorem ba_own (ho : s.heap.get? a = some (baObj b)) {Q : Bool → Shared → Prop} (h : Q false s) : wpAny M A (Builtin.Bytes.ownRelease (.ref a)) Q E s := by
  have key : ∀ x : String, x = "bytearray" → wpAny M A (isInstance (.ref a) (.type x)) (fun r s' => Q (!r) s') E s := fun x hx => by rw [hx]; exact wpAny_isInstance (ba_type ho) ba_sub h
  unfold Builtin.Bytes.ownRelease Builtin.Bytes.slotIsOwn
  refine wpAny_bind (wpAny_bind (wpAny_specialOf (ba_type ho) ba_release ?_))
  dsimp only
  split
  · rename_i hx
    exact absurd hx (by decide +kernel)
  · exact wpAny_mono (key _ (by decide +kernel)) (fun r s' hr => wpAny_pure hr) fun _ _ x => x
theorem ba_write {f : Array UInt8 → Array UInt8} (ho : s.heap.get? a = some (baObj b)) (hz : (f b).size ≤ sizeLine) {Q : Unit → Shared → Prop}
    (h : ∀ h', h'.get? a = some (baObj (f b)) → Exo [a] s.heap h' → Q () { s with heap := h' }) : wpAny M A (Builtin.Bytes.write (.ref a) f) Q E s := by
  have e1 : (s.heap.update a (Obj.mapBytearray f)).get? a = some (baObj (f b)) := Heap.get?_update_self _ ho rfl
  show wpAny M A (updateBytearray a f) Q E s
  unfold updateBytearray
  refine wpAny_bind (wpAny_load ho ?_)
  refine wpAny_bind (wpAny_update ho ?_)
  refine wpAny_lookBehind e1 ?_ (h _ e1 fun c o n e => (Heap.get?_update_ne _ _ _ _ (by simpa using n)).trans e)
  show (if (f b).size > sizeLine then _ else none) = none
  rw [if_neg (Nat.not_lt.mpr hz)]
theorem ba_exports (ho : s.heap.get? a = some (baObj b)) {Q : Bool → Shared → Prop} (h : Q false s) : wpP M A (Builtin.Bytes.exported (.ref a) <||> (do return (← Builtin.Bytes.exportsOf (.ref a)) > 0)) Q E s := by
  refine .bind (.exported ?_)
  refine .any ?_
  show wpAny M A (Builtin.Bytes.exportsOf (.ref a) >>= fun n => pure (decide (n > 0))) Q E s
  unfold Builtin.Bytes.exportsOf
  exact wpAny_bind (wpAny_bind (wpAny_load ho (wpAny_pure (wpAny_pure h))))
theorem ba_payload (ho : s.heap.get? a = some (baObj b)) {Q : Array UInt8 → Shared → Prop} (h : Q b s) : wpAny M A (Builtin.Bytes.payload (.ref a)) Q E s := by
  unfold Builtin.Bytes.payload Builtin.Bytes.payload?
  exact wpAny_bind (wpAny_bind (wpAny_load ho (wpAny_pure (wpAny_pure h))))
theorem ba_initP (ho : s.heap.get? a = some (baObj b)) {Q : Fin → Shared → Prop} (h : ∀ h', h'.get? a = some (baObj #[]) → Exo [a] s.heap h' → Q (.done (.ret .none)) { s with heap := h' }) :
    wpP M A (Builtin.«bytearray.__init__» ⟨[.ref a], []⟩) Q E s := by
  unfold Builtin.«bytearray.__init__»
  refine .bindA (ba_own ho ?_)
  refine .bindA (wpAny_of_eq (a := [none, none, none]) (by kernel_rfl) ?_)
  refine .bindA (wpAny_pure (.bindA (wpAny_pure ?_)))
  refine .bind (ba_exports ho ?_)
  refine .bindA (ba_write (f := fun _ => #[]) ho (by decide) fun h' e1 e2 => ?_)
  exact .any (wpAny_pure (h h' e1 e2))
theorem take_eq {id : String} {c : Array UInt8} {u : Tok} : Builtin.Bytes.takeBufferQuiet? id (.bytes c u) 0 = pure (some (c, none)) := by
  have e : Builtin.Bytes.takeBuffer? id (.bytes c u) 0 = pure (some (c, none)) := by
    unfold Builtin.Bytes.takeBuffer?
    rw [KBy.special_eq KBy.look_buffer, KBy.own_buffer]
    simp only [show ((0 : Int) == Builtin.Bytes.fullReadOnly) = false from by decide +kernel, KBy.buffer_eq]
    kernel_rfl
  unfold Builtin.Bytes.takeBufferQuiet?
  rw [e]; rfl
theorem ba_extendP {c : Array UInt8} {u : Tok} (ho : s.heap.get? a = some (baObj b)) (hz : b.size + c.size ≤ sizeLine) {Q : Fin → Shared → Prop} (h : ∀ h', h'.get? a = some (baObj (b ++ c)) → Exo [a] s.heap h' → Q (.done (.ret .none)) { s with heap := h' }) :
    wpP M A (Builtin.«bytearray.extend» ⟨[.ref a, .bytes c u], []⟩) Q E s := by
  unfold Builtin.«bytearray.extend»
  refine .bindA (wpAny_of_eq (a := (Value.ref a, Value.bytes c u)) (by kernel_rfl) ?_)
  refine .bindA (wpAny_of_eq (KBy.special_eq KBy.look_buffer) ?_)
  refine .bindA (wpAny_rule (.bindA (ba_payload ho (.bindA (wpAny_of_eq take_eq ?_)))))
  have last : wpP M A (Builtin.Bytes.write (.ref a) (· ++ c) >>= fun _ => (ret .none : Sem Fin)) Q E s := by
    refine .bindA (ba_write (f := (· ++ c)) ho (by simpa using hz) fun h' e1 e2 => ?_)
    exact .any (wpAny_pure (h h' e1 e2))
  show wpP M A (if (!c.isEmpty) = true then (Builtin.Bytes.checkResize (.ref a) >>= fun _ => Builtin.Bytes.write (.ref a) (· ++ c) >>= fun _ => (ret .none : Sem Fin)) else (Builtin.Bytes.write (.ref a) (· ++ c) >>= fun _ => (ret .none : Sem Fin))) Q E s
  split
  · unfold Builtin.Bytes.checkResize
    exact .bind (.bind (ba_exports ho (.any (wpAny_pure last))))
  · exact last
end
end Mine
-- part P4
namespace Mine
section
variable {prog : Program} {w : World} {A : Around} {E : Value → Shared → Prop} {s : Shared} {a : Addr} {b : Array UInt8} {R : Result → Shared → Prop}
theorem codeP.builtin {id : String} {args : Args} {B : Builtin} (hq : plainId id = true) (hb : entryFor table id = some B)
    (h : wpP (model prog w) A.in1 (B args) (fun fin s' => ∃ f, fin = .done f ∧ R (.ok f) s') (fun e s' => R (.error e) s') s) : codeP (model prog w) A (.builtin id args) R s := by
  refine .tree ?_
  rw [Around.under_plainId hq args]
  show wpP _ _ (match entryFor table id with | some b => b args | none => unsupported ((withoutEnding? id "#data").getD id)) _ _ s
  rw [hb]
  exact h.mono (fun fin s' h' => by obtain ⟨f, rfl, h'⟩ := h'; exact h') fun _ _ x => x
theorem codeP.entry {id : String} {args : Args} {B : Builtin} (hb : entryFor table id = some B)
    (h : wpP (model prog w) (A.under (.builtin id args)) (B args) (fun fin s' => match fin with | .done f => R (.ok f) s' | .again c' => c'.quiet = true ∧ CleanC c' ∧ codeP (model prog w) A c' R s') (fun e s' => R (.error e) s') s) : codeP (model prog w) A (.builtin id args) R s := by
  refine .tree ?_
  show wpP _ _ (match entryFor table id with | some b => b args | none => unsupported ((withoutEnding? id "#data").getD id)) _ _ s
  rw [hb]; exact h
theorem codeP.callBuiltin {id : String} {args : Args} {B : Builtin} (hq : plainId id = true) (hb : entryFor table id = some B) (hcl : CleanC (.builtin id args))
    (h : wpAny (model prog w) A.in1 (checkBuiltinCall id args) (fun _ s₁ => wpP (model prog w) A.in1 (B args) (fun fin s' => ∃ f, fin = .done f ∧ R (.ok f) s') (fun e s' => R (.error e) s') s₁) (fun e s' => R (.error e) s') s) :
    codeP (model prog w) A (.call (.builtin id) args) R s := by
  refine .tree ?_
  show wpP _ A.in1 (checkBuiltinCall id args >>= fun _ => again (.builtin id args)) _ _ s
  exact .bindA (wpAny_mono h (fun _ s₁ h₁ => .ret ⟨plainId_quiet hq args, hcl, .builtin hq hb h₁⟩) fun _ _ x => x)
theorem ba_callExtend {c : Array UInt8} {u : Tok} (ho : s.heap.get? a = some (baObj b)) (hz : b.size + c.size ≤ sizeLine) {Q : Value → Shared → Prop}
    (h : ∀ h', h'.get? a = some (baObj (b ++ c)) → Exo [a] s.heap h' → Q .none { s with heap := h' }) : wpP (model prog w) A (call (.builtin "bytearray.extend") [.ref a, .bytes c u]) Q E s := by
  refine .called (.callBuiltin ba_extend.plain ba_entryExtend (clean_extend _ _ _) (ba_extend.check _ _ _ _ _ _ _ _ (ba_type ho) (by unfold argsOk; kernel_rfl) ?_))
  exact ba_extendP ho hz fun h' e1 e2 => ⟨_, rfl, h h' e1 e2⟩
theorem ba_new {Q : Value → Shared → Prop} (h : Q (.ref s.heap.objs.size) { s with heap := s.heap.push (baObj #[]) }) : codeAny (model prog w) A (.call (.builtin "bytearray.__new__") ⟨[.type "bytearray"], []⟩) (wants Q E) s := by
  refine codeAny_of_tree ?_
  show wpAny _ A.in1 (do checkBuiltinCall "bytearray.__new__" ⟨[.type "bytearray"], []⟩; again (.builtin "bytearray.__new__" ⟨[.type "bytearray"], []⟩)) _ _ s
  refine wpAny_bind (wpAny_of_eq ba_newCall (wpAny_pure ⟨plainId_quiet ba_called.plain _, codeAny_builtin_stack ba_entryNew rfl fun p st => ?_⟩))
  rw [Around.under_plainId ba_called.plain _]
  have hsub := ba_sub
  have hown := ba_owner
  obtain ⟨hp, g, d, tk, os⟩ := s
  simp only [hown]
  wp_walk
  exact h
theorem ba_callNew {Q : Value → Shared → Prop} (h : ∀ h', h'.get? s.heap.objs.size = some (baObj #[]) → Ext s.heap h' → Q (.ref s.heap.objs.size) { s with heap := h' }) :
    wpP (model prog w) A (call (.type "bytearray") []) Q E s := by
  have ft := ba_called
  obtain ⟨c, tl, hmro⟩ := ft.mro
  refine .called (.tree ?_)
  show wpP _ _ (callAny (.type "bytearray") ⟨[], []⟩) _ _ _
  refine .ret ⟨Code.quiet_builtin _ (by decide +kernel), clean_call _ _ _, .entry F.entry_type_call ?_⟩
  rw [Around.under_plain (weight_type_call_type "bytearray" [] []) rfl]
  unfold Builtin.«type.__call__»
  show wpP (model prog w) A.in1 (if (Value.type "bytearray" == Value.type "type") = true then _ else _) _ _ s
  rw [if_neg (by rw [ft.notType]; exact Bool.false_ne_true)]
  have h2 := ft.canCreate
  show wpP (model prog w) A.in1 (if _ = true then _ else (checkTypeCall "bytearray" ⟨[], []⟩ >>= fun _ => mroOf (.type "bytearray") >>= fun l => if l.isEmpty = true then _ else (Bind.madeBy (.type "bytearray") >>= fun r => _))) _ _ s
  rw [if_neg (fun q => Bool.false_ne_true (h2.symm.trans q))]
  refine .bindA (wpAny_of_eq (a := ()) (by kernel_rfl) (.bindA ?_))
  rw [hmro]
  refine wpAny_pure ?_
  show wpP (model prog w) A.in1 (Bind.madeBy (.type "bytearray") >>= fun r => _) _ _ s
  rw [ft.made]
  refine .bindA (wpAny_pure ?_)
  refine .bindA (wpAny_pure ?_)
  refine .bindA (wpAny_holding (wpAny_call (ba_new ?_)))
  have ho : (s.heap.push (baObj #[])).get? s.heap.objs.size = some (baObj #[]) := Heap.get?_push_size _ rfl
  refine .bindA (wpAny_isInstance (ba_type ho) ba_sub ?_)
  show wpP (model prog w) A.in1 (holding [.ref s.heap.objs.size] (callSpecial? (.ref s.heap.objs.size) "__init__" [] []) >>= fun r => _) _ _ _
  refine .bind (.held ?_)
  unfold callSpecial?
  refine .bindA (wpAny_specialOf (ba_type ho) ba_init.lookup ?_)
  refine .held (.bindA (wpAny_of_eq (ba_init.bind _) (.bind ?_)))
  refine .called (.callBuiltin ba_init.plain ba_entryInit (clean_init _ _ _) (ba_init.check _ _ _ _ _ _ _ _ (ba_type ho) (by unfold argsOk; kernel_rfl) (ba_initP ho fun h' e1 e2 => ⟨_, rfl, .ret (.ret (h h' e1 fun c o e => e2 c o (fun q => ?_) (Heap.get?_push_of_some _ e)))⟩)))
  rw [List.mem_singleton] at q
  exact absurd (Heap.lt_size (q ▸ e)) (Nat.lt_irrefl _)
end
end Mine
-- part P5
namespace Mine
section
variable {prog : Program} {w : World} {A : Around} {K : Frag} {C : Addr} {s : Shared} {R : Result → Shared → Prop} {h₀ : Heap} {L : Addr} {m : Str → Option Value} {news : List (Addr × Obj)}
/-- a class of the program's is called with nothing: its `__init__` in a clean context -/
theorem makeP {fI : Addr} (X : K.In s.heap) (hm : makesIn K C = true) (hi : findIn K (.ref C) "__init__" = some (some (.ref fI))) (hf : typeIn K (.ref fI) = some (.type "function"))
    (h : codeP (model prog w) (A.under (.builtin "type.__call__" ⟨[.ref C], []⟩)) (.call (.ref fI) ⟨[.ref (s.heap.objs.size + 1)], []⟩) (InitBack (s.heap.objs.size + 1) R) { s with heap := (s.heap.push emptyDict).push (instObj C s.heap.objs.size) }) :
    codeP (model prog w) A (.call (.ref C) ⟨[], []⟩) R s := by
  obtain ⟨hh, g, d, t, os⟩ := s
  have Y := makes_of (M := model prog w) X hm
  have init := looks_findIn (M := model prog w) X hi
  obtain ⟨oc, od, cd, sl, hC, e1, e2, e4⟩ := Y.obj
  refine .tree ?_
  show wpP _ _ (callAny (.ref C) _) _ _ _
  unfold callAny
  refine .bindA (wpAny_load hC ?_)
  show wpP _ _ (specialOf (.ref C) "__call__" >>= _) _ _ _
  refine .bindA (Y.call.here ?_)
  show wpP _ _ (bindSpecial (.builtin "type.__call__") (.ref C) >>= _) _ _ _
  rw [show bindSpecial (.builtin "type.__call__") (.ref C) = pure (.builtin "type.__call__", [.ref C]) by kernel_rfl]
  refine .bindA (wpAny_pure (.bindA (wpAny_pure ?_)))
  refine wpP.ret (a := Fin.again (.call (.builtin "type.__call__") ⟨[.ref C], []⟩)) ⟨rfl, fun _ _ => rfl, .tree ?_⟩
  show wpP _ _ (checkBuiltinCall "type.__call__" ⟨[.ref C], []⟩ >>= fun _ => again (.builtin "type.__call__" ⟨[.ref C], []⟩)) _ _ _
  refine .bindA (check_slot (owner := "type") (n := "__call__") (by decide +kernel) (by decide +kernel) Y.typ (tc_args _ _ _) ?_)
  refine .ret ⟨Code.quiet_builtin _ (by decide +kernel), clean_call _ _ _, .entry F.entry_type_call ?_⟩
  unfold Builtin.«type.__call__»
  show wpP _ _ (if (Value.ref C == Value.type "type") = true then _ else (mroOf (.ref C) >>= fun l => if l.isEmpty = true then _ else (Bind.madeBy (.ref C) >>= fun r => _))) _ _ _
  rw [if_neg (by exact Bool.false_ne_true)]
  have mro : Looks (model prog w) hh (mroOf (.ref C)) cd.mro := ((Looks.ld (part := none) hC).andThen .now).andThen .now
  refine .bindA (mro.here ?_)
  rw [e4]
  show wpP _ _ (Bind.madeBy (.ref C) >>= _) _ _ _
  refine .bindA (Y.made.here (.bindA (wpAny_pure ?_)))
  refine .bindA (wpAny_holding (wpAny_call (new_K Y init (.inl rfl) ?_)))
  have k : Ext hh ((hh.push emptyDict).push (instObj C hh.objs.size)) := fun b o e => Heap.get?_push_of_some _ (Heap.get?_push_of_some _ e)
  have hx : ((hh.push emptyDict).push (instObj C hh.objs.size)).get? (hh.objs.size + 1) = some (instObj C hh.objs.size) := by
    have := Heap.get?_push_size (hh.push emptyDict) (o := instObj C hh.objs.size) rfl
    rwa [Heap.size_push] at this
  have t1 : Looks (model prog w) ((hh.push emptyDict).push (instObj C hh.objs.size)) (typeOf (.ref (hh.objs.size + 1))) (.ref C) := (Looks.ld hx).andThen .now
  refine .bindA (Looks.here (t1.andThen (Y.self.keeps k)) ?_)
  show wpP _ _ (holding [.ref (hh.objs.size + 1)] (callSpecial? (.ref (hh.objs.size + 1)) "__init__" [] []) >>= fun r => _) _ _ _
  refine .bind (.held ?_)
  unfold callSpecial?
  refine .bindA (Looks.here (t1.andThen (init.keeps k)) ?_)
  refine .held (.bindA (((bind_fn X (.ref (hh.objs.size + 1)) hf).keeps k).here (.bind (.called (h.mono fun r s' z => ?_)))))
  rcases r with e | (v | _ | _ | _) <;> first | exact z | exact z.elim | skip
  obtain ⟨rfl, z⟩ := z
  exact .ret (.ret z)
end
end Mine
-- part P6
namespace Mine
section
variable {M : Model} {A : Around} {E : Value → Shared → Prop} {s : Shared} {env : Env}
theorem wpP.stAttr {o : Expr} {attr : Str} {pos' pos : Pos} {value : Expr} {Q : Flow → Shared → Prop}
    (h : wpP M A (eval value env) (fun v s₁ => wpAny M A (eval o env) (fun ov s₂ => wpAny M A (setAttr ov attr v) (fun _ => Q .next) E s₂) E s₁) E s)
    (hs : swapsWith value (some (.Attribute o attr pos')) pos.line env = pure false := by rfl) : wpP M A (exec (.Assign [.Attribute o attr pos'] value pos) env) Q E s := by
  rw [plainObj_exec_Assign_Attribute o attr pos' value pos hs]
  refine .stand (.bind (h.mono (fun v s₁ h₁ => .any ?_) fun _ _ x => x))
  rw [assign_Attribute]
  refine wpAny_bind (wpAny_bind (wpAny_holding (wpAny_mono h₁ (fun ov s₂ h₂ => wpAny_bind (wpAny_standAt (wpAny_bind (wpAny_holding (wpAny_mono h₂ (fun _ s₃ h₃ => ?_) fun _ _ x => x))))) fun _ _ x => x)))
  exact fun Γ p hΓ => by rw [Sem.wp_release]; exact wpAny_pure h₃
end
theorem enterPM {w : World} {A : Around} {s : Shared} {K : Frag} {R : Result → Shared → Prop} {p : Program} {loose : List Str} {mean : ExcName → Option Value} {mg mb : Str → Option Value} {mu : List (Addr × Obj)} {fs : List Addr}
    {name qual : Str} {params : Arguments} {body : List Stmt} {scope : Scope} {dV kV doc pm cdv ct oc : Value} {an od : Option Addr} {osl : Array (Option Value)} {f : Addr} {args : Args} {binds : List (Str × Value)}
    (hmu : ∀ q ∈ mu, s.heap.get? q.1 = some q.2) (has : mu.map (·.1) = fs) (X : K.In (hideAll s.heap fs)) (T : Top p loose mean mg mb (hideAll s.heap fs))
    (ho : K.lookup f = some ⟨oc, od, .func (fnOf name qual params body scope dV kV doc pm an cdv ct), osl⟩) (hcd : codeIn K cdv qual = true) (hroom : A.depth < recursionLimit)
    (hbind : BindsTo s (fnOf name qual params body scope dV kV doc pm an cdv ct) args binds) (hloc : ∀ y ∈ binds, scope.names.lookup y.1 = some .local)
    (h : ∀ L' h₁, L' = s.heap.objs.size → Fr (hideAll s.heap fs) L' h₁ (fun y => binds.reverse.lookup y) → News (hideAll s.heap fs) L' h₁ mu → (∀ q ∈ mu, q.1 < L') →
      wpP (model PySem.Challenge.rw_pb0583_01.row.prog w) (A.deeper (envOf qual scope L' f cdv)) (execs body (envOf qual scope L' f cdv))
        (fun fl s' => R (.ok (.ret (match fl with | .ret v => v | _ => .none))) s')
        (fun e s' => wpAny (model PySem.Challenge.rw_pb0583_01.row.prog w) (A.deeper (envOf qual scope L' f cdv)) (leaving (envOf qual scope L' f cdv) e) (fun _ s'' => R (.error e) s'') (fun e' s'' => R (.error e') s'') s')
        { s with heap := h₁, toks := s.toks + binds.length })
    (hco : scope.isCoroutine = false := by rfl) (hgen : scope.isGenerator = false := by rfl) (hk : scope.kind = .function := by rfl)
    (hcell : ∀ x ∈ scope.names, x.2 ≠ .cell := by decide) : codeP (model PySem.Challenge.rw_pb0583_01.row.prog w) A (.call (.ref f) args) R s := by
  subst has
  have st : Ext (hideAll s.heap (mu.map (·.1))) s.heap := fun b o e => of_hideAll _ e
  refine codeP.fn (fd := fnOf name qual params body scope dV kV doc pm an cdv ct) (body := body) hroom ((X.keeps st) _ _ ho) rfl hco hgen rfl (codeRec_of (X.keeps st) hcd) (hbind _ _ _ _ ?_)
  refine wpAny_newFunctionEnv hcell hloc (fun h₁ hns hsb => ⟨(T.nolimit.keeps st).fresh _ hsb, codeP.func (h _ h₁ rfl ⟨hns, fun b o e => ?_, Nat.le_of_eq (hideAll_size _ _)⟩
    (fun q hq => ⟨?_, Nat.ne_of_lt (Heap.lt_size (hmu q hq)), hideAll_none _ (List.mem_map_of_mem hq)⟩) (fun q hq => Heap.lt_size (hmu q hq)))⟩) hk
  · exact hsb.extBut b o (Nat.ne_of_lt (Heap.lt_size (st b o e))) (Heap.get?_push_of_some _ (st b o e))
  · exact hsb.extBut _ _ (Nat.ne_of_lt (Heap.lt_size (hmu q hq))) (Heap.get?_push_of_some _ (hmu q hq))
end Mine
-- part P14
namespace Mine
section
variable {prog : Program} {w : World} {A : Around} {s : Shared} {env : Env}
theorem codeP.loop {M : Model} {c : Code} {R : Result → Shared → Prop} (hq : c.quiet = true) (hcl : CleanC c) (I : Nat → Shared → Prop)
    (turn : ∀ n s, I n s → wpP M (A.under c) (M.den c) (fun fin s' => match fin with
        | .done f => R (.ok f) s'
        | .again c' => (c' = c ∧ ∃ m, m < n ∧ I m s') ∨ (c'.quiet = true ∧ CleanC c' ∧ codeP M A c' R s')) (fun e s' => R (.error e) s') s) (n : Nat) (h : I n s) : codeP M A c R s := by
  induction n using Nat.strongRecOn generalizing s with
  | ind n ih =>
    refine .tree ((turn n s h).mono (fun fin s' hf => ?_) fun _ _ h' => h')
    cases fin with
    | done f => exact hf
    | again c' =>
      rcases hf with ⟨rfl, m, hm, hI⟩ | hf
      · exact ⟨hq, hcl, ih m hm hI⟩
      · exact hf
/-- a for whose body holds a path call, and that nothing leaves -/
theorem codeP.forLoop {R : Result → Shared → Prop} {target : Expr} {it : Value} {body : List Stmt} (I : Nat → Shared → Prop)
    (turn : ∀ n s, I n s → wpAny (model prog w) A (pyNext it) (fun r s₁ => match r with
      | none => R (.ok .next) s₁
      | some v => wpAny (model prog w) A (assign target env v) (fun _ s₂ => wpP (model prog w) A (execs body env) (fun f s₃ => f = .next ∧ ∃ m, m < n ∧ I m s₃) (fun _ _ => False) s₂) (fun _ _ => False) s₁) (fun _ _ => False) s)
    (n : Nat) (h : I n s) (ht : ∀ v, letOwnedTupleGo target it v = pure () := by intro _; rfl) : codeP (model prog w) A (.forLoop target it body [] env) R s := by
  refine .loop rfl (fun _ _ => rfl) I (fun n s hI => ?_) n h
  show wpP _ A ((forTurn target it body [] env).onRaise (fun x => do noteFrame x env; theTreesLotGoes x)) _ _ s
  refine .raising (wpP.mono (E := fun _ _ => False) ?_ (fun _ _ x => x) fun _ _ x => x.elim)
  unfold forTurn
  refine .stand (.bind (.raising (.any (wpAny_mono (turn n s hI) (fun r s₁ h₁ => ?_) fun _ _ x => x.elim))))
  cases r with
  | none => exact .ret (.inr ⟨rfl, fun _ _ => rfl, .any (codeAny_block (wpAny_execs_nil h₁))⟩)
  | some v =>
    refine .bindA (wpAny_of_eq (ht v) (.bindA (wpAny_mono h₁ (fun _ s₂ h₂ => .bind (h₂.mono (fun f s₃ h₃ => ?_) fun _ _ x => x)) fun _ _ x => x)))
    obtain ⟨rfl, h₃⟩ := h₃
    exact .ret (.inl ⟨rfl, h₃⟩)
theorem wpP.stFor {M : Model} {target iter : Expr} {body orelse : List Stmt} {pos : Pos} {Q : Flow → Shared → Prop}
    (h : wpAny M A (eval iter env) (fun x s₁ => wpAny M A (pyIter x) (fun it s₂ => codeP M A (.forLoop target it body orelse env) (fun r s' => match r with | .ok f => Q f s' | .error _ => False) s₂) (fun _ _ => False) s₁) (fun _ _ => False) s)
    (hs : ∀ x, foldedSetIterable iter env x = pure x := by intro _; rfl) : wpP M A (exec (.For target iter body orelse pos) env) Q (fun _ _ => False) s := by
  rw [exec_For]
  refine .stand (.bindA (wpAny_mono h (fun x s₁ h₁ => .bindA (wpAny_of_eq (hs x) (.stand (.bindA (wpAny_holding (wpAny_mono h₁ (fun it s₂ h₂ => ?_) fun _ _ x => x)))))) fun _ _ x => x))
  unfold runOwn
  refine .raising (.ran (h₂.mono fun r s' q => ?_) (fun _ _ => rfl))
  cases r with
  | ok f => exact q
  | error e => exact q.elim
end
end Mine
-- part Pc
namespace Mine
section
variable {prog : Program} {w : World} {M : Model} {A : Around} {E : Value → Shared → Prop} {s : Shared} {env : Env}
theorem wpP.stTuple {elts : List Expr} {k : Nat} {tpos pos : Pos} {value : Expr} {Q : Flow → Shared → Prop}
    (h : wpP M A (eval value env) (fun v s₁ => wpAny M A (assign (.Tuple elts k tpos) env v) (fun _ => Q .next) E s₁) E s)
    (hs : swapsWithSole [.Tuple elts k tpos] value pos.line env = pure false := by rfl)
    (hw : swappedStores [.Tuple elts k tpos] value env = pure none := by rfl) : wpP M A (exec (.Assign [.Tuple elts k tpos] value pos) env) Q E s := by
  rw [exec_Assign]
  refine .stand ?_
  rw [hs]
  refine .bindA (wpAny_pure ?_)
  rw [if_neg (by decide)]
  refine .bind (h.mono (fun v s₁ h₁ => ?_) fun _ _ x => x)
  rw [hw]
  refine .bindA (wpAny_pure ?_)
  show wpP M A (do assignAll v [assign (.Tuple elts k tpos) env]; pure .next) Q E s₁
  exact .bindA (wpAny_mono h₁ (fun _ _ x => .ret x) fun _ _ x => x)
theorem wpP.stTupleSw {elts : List Expr} {k : Nat} {tpos pos : Pos} {value : Expr} {names : List Str} {Q : Flow → Shared → Prop}
    (h : wpP M A (eval value env) (fun v s₁ => wpAny M A (unpackItems v names.length none) (fun items s₂ =>
      wpAny M A (assignInOrder (names.reverse.map fun n => bindName env n) items.reverse) (fun _ => Q .next) E s₂) E s₁) E s)
    (hs : swapsWithSole [.Tuple elts k tpos] value pos.line env = pure false := by rfl)
    (hw : swappedStores [.Tuple elts k tpos] value env = pure (some names) := by rfl) : wpP M A (exec (.Assign [.Tuple elts k tpos] value pos) env) Q E s := by
  rw [exec_Assign]
  refine .stand ?_
  rw [hs]
  refine .bindA (wpAny_pure ?_)
  rw [if_neg (by decide)]
  refine .bind (h.mono (fun v s₁ h₁ => ?_) fun _ _ x => x)
  rw [hw]
  refine .bindA (wpAny_pure ?_)
  show wpP M A (do rule "assign.swapped-stores"; let items ← unpackItems v names.length none; assignInOrder (names.reverse.map fun n => bindName env n) items.reverse; pure .next) Q E s₁
  exact .bindA (wpAny_rule (.bindA (wpAny_mono h₁ (fun items s₂ h₂ => .bindA (wpAny_mono h₂ (fun _ _ x => .ret x) fun _ _ x => x)) fun _ _ x => x)))
theorem wpP.evTuple {elts : List Expr} {k : Nat} {pos : Pos} {Q : Value → Shared → Prop}
    (h : wpP M A (spliced (backTo pos (starEach elts env))) (fun vs s₁ => wpAny M A (newTuple vs) Q E s₁) E s) : wpP M A (eval (.Tuple elts k pos) env) Q E s := by
  show wpP M A (do standAt pos; newTuple (← spliced (backTo pos (starEach elts env)))) Q E s
  exact .stand (.bind (h.mono (fun _ _ x => .any x) fun _ _ x => x))
theorem wpP.itemsNil {pos : Pos} {Q : List Value → Shared → Prop} (h : Q [] s) : wpP M A (spliced (backTo pos (starEach [] env))) Q E s := .ret h
theorem wpP.items {pos : Pos} {e : Expr} {rest : List Expr} {Q : List Value → Shared → Prop}
    (h : wpP M A (eval e env) (fun v s₁ => wpP M A (spliced (backTo pos (starEach rest env))) (fun vs s₂ => Q (v :: vs) s₂) E s₁) E s)
    (he : starEach (e :: rest) env = (false, eval e env) :: starEach rest env := by rfl) : wpP M A (spliced (backTo pos (starEach (e :: rest) env))) Q E s := by
  rw [he]
  show wpP M A (do
    let v ← eval e env
    let here ← (pure [v] : Sem (List Value))
    return here ++ (← holding here (spliced (backTo pos (starEach rest env))))) Q E s
  exact .bind (h.mono (fun v s₁ h₁ => .bindA (wpAny_pure (.bind (.held (h₁.mono (fun vs s₂ h₂ => .ret h₂) fun _ _ x => x))))) fun _ _ x => x)
def compPostP (Q : Value → Shared → Prop) (acc : Value) (C : Addr) (r : Result) (s' : Shared) : Prop :=
  match r with
  | .ok _ => ∃ m, s'.heap.Ns C m ∧ ∀ h', Heap.SameBut C s'.heap h' → Q acc { s' with heap := h' }
  | .error _ => False
theorem wpP.comprehension_free {e : Expr} {scope : Scope} {pos : Pos} {newAcc first : Sem Value} {g : Comprehension} {gs : List Comprehension} {cl : List (Str × Addr)} {Q : Value → Shared → Prop}
    (hcl : clausesOf e = g :: gs) (hs : ∀ x, foldedSetIterable g.iter env x = pure x) (hclos : closureFor scope env = pure cl)
    (hkind : scope.kind = .function) (hnames : ∀ x ∈ scope.names, x.2 = .local → scope.names.lookup x.1 = some .local)
    (h : wpAny M A first (fun x s₁ => wpAny M A (pyIter x) (fun it s₂ => wpAny M A newAcc (fun acc s₃ =>
      wpAny M A (newFunctionEnv scope env.globals cl [] env.qual none .none (some env)) (fun cenv s₄ =>
        codeP M A (.compStart e 0 it acc { cenv with scope := relabel scope env }) (compPostP Q acc cenv.locals) s₄) (fun _ _ => False) s₃) (fun _ _ => False) s₂) (fun _ _ => False) s₁) (fun _ _ => False) s) :
    wpP M A (comprehension e scope env pos newAcc false first none) Q (fun _ _ => False) s := by
  unfold comprehension
  rw [hclos, hcl]
  refine .bindA (wpAny_mono h (fun x s₁ h₁ => .stand (.bindA (wpAny_of_eq (hs x) (.bindA (wpAny_holding (wpAny_mono h₁ (fun it s₂ h₂ =>
    (show wpP M A (if (none : Option (Value → Sem Unit)).isSome = true then _ else _) Q (fun _ _ => False) s₂ from ?_)) fun _ _ h' => h')))))) fun _ _ h' => h')
  rw [if_neg (by decide)]
  refine .bindA (wpAny_mono h₂ (fun acc s₃ h₃ => .bindA (wpAny_pure (.bindA (wpAny_mono h₃ (fun cenv s₄ h₄ => ?_) fun _ _ h' => h')))) fun _ _ h' => h')
  dsimp only
  have hv : ∀ x ∈ (scope.names.filter fun x => (x.2 == .local || x.2 == .cell) && x.1 != (".0" : Str)).reverse, x.2 = .local →
      Env.kindOf { cenv with scope := relabel scope env } x.1 = some .local := fun x hx hl => lookup_relabel_local (hnames x (List.mem_filter.mp (List.mem_reverse.mp hx)).1 hl)
  refine .held (.bind (.attempted (.held (.ran (h₄.mono fun r s' hr => ?_) (fun _ _ => rfl)))))
  cases r with
  | ok f =>
    obtain ⟨m, hn, hr⟩ := hr
    exact .any (wpAny_bind (wpAny_holding (wpAny_comp_letGo (cenv := { cenv with scope := relabel scope env }) hkind _ s' m hv hn fun h' m' _ hs' => wpAny_pure (hr h' hs'))))
  | error x => exact hr.elim
theorem codeP.compLoop {elt target iter : PySem.Expr} {scope : Scope} {pos : Pos} {it acc : Value} {env : Env} {R : Result → Shared → Prop} (I : Nat → Shared → Prop)
    (turn : ∀ n s, I n s → wpAny (model prog w) A (pyNext it) (fun r s₁ => match r with
      | none => R (.ok .next) s₁
      | some v => wpAny (model prog w) A (letOwnedTupleGo target it v) (fun _ s₀ => wpAny (model prog w) A (assign target env v) (fun _ s₂ =>
          wpP (model prog w) A (eval elt env) (fun x s₄ =>
            wpAny (model prog w) A (call (.builtin "list.append") [acc, x]) (fun _ s₅ => ∃ m, m < n ∧ I m s₅) (fun _ _ => False) s₄) (fun _ _ => False) s₂)
          (fun _ _ => False) s₀) (fun _ _ => False) s₁) (fun _ _ => False) s)
    (n : Nat) (h : I n s) : codeP (model prog w) A (.compLoop (.ListComp elt [⟨target, iter, [], 0⟩] scope pos) 0 it acc env) R s := by
  refine .loop rfl (fun _ _ => rfl) I (fun n s hI => ?_) n h
  show wpP _ A ((compTurn (.ListComp elt [⟨target, iter, [], 0⟩] scope pos) 0 it acc env).onRaise (fun x => do noteFrame x env; theTreesLotGoes x)) _ _ s
  refine .raising (wpP.mono (E := fun _ _ => False) ?_ (fun _ _ x => x) fun _ _ x => x.elim)
  rw [compTurn_list]
  refine .stand (.bindA (wpAny_mono (turn n s hI) (fun r s₁ h₁ => ?_) fun _ _ h' => h'))
  cases r with
  | none => exact .ret h₁
  | some v =>
    refine .bindA (wpAny_mono h₁ (fun _ s₀ h₀' => ?_) fun _ _ h' => h')
    refine .bindA (wpAny_mono h₀' (fun _ s₂ h₂ => ?_) fun _ _ h' => h')
    refine .bindA (wpAny_tests_nil ?_)
    exact .bind (.bind (h₂.mono (fun x s₄ h₄ => .bindA (wpAny_mono h₄ (fun _ s₅ h₅ => .ret (.ret (.inl ⟨rfl, h₅⟩))) fun _ _ h' => h')) fun _ _ h' => h'))
theorem codeP.startComp {elt target iter : PySem.Expr} {scope : Scope} {pos : Pos} {it acc : Value} {env : Env} {R : Result → Shared → Prop}
    (h0 : codeP (model prog w) A (.compLoop (.ListComp elt [⟨target, iter, [], 0⟩] scope pos) 0 it acc env) R s)
    (h : wpAny (model prog w) A (pyIter it) (fun it' s' => codeP (model prog w) A (.compLoop (.ListComp elt [⟨target, iter, [], 0⟩] scope pos) 0 it' acc env) R s')
      (notedBy (model prog w) A env fun x s' => R (.error x) s') s) :
    codeP (model prog w) A (.compStart (.ListComp elt [⟨target, iter, [], 0⟩] scope pos) 0 it acc env) R s := by
  refine .tree (.any ?_)
  show wpAny _ _ ((compStart (.ListComp elt [⟨target, iter, [], 0⟩] scope pos) 0 it acc env).onRaise (fun x => do noteFrame x env; standAt theWindowsPlace)) _ _ s
  refine wpAny_notedAt ?_
  unfold compStart
  show wpAny _ _ (ask >>= _) _ _ s
  refine wpAny_bind (wpAny_askSetting (wpAny_ite ?_))
  split
  · first
      | exact wpAny_bind (wpAny_pure (wpAny_pure ⟨rfl, fun _ _ => rfl, h0⟩))
      | exact wpAny_pure ⟨rfl, fun _ _ => rfl, h0⟩
  · first
      | exact wpAny_bind (wpAny_rule (wpAny_bind (wpAny_standAt (wpAny_bind (wpAny_mono h (fun it' s' h' => wpAny_pure ⟨rfl, fun _ _ => rfl, h'⟩) fun _ _ x => x)))))
end
theorem comp_srcP {prog : Program} {w : World} {A : Around} {s₂ : Shared} {env : Env} {scope : Scope} {cl : List (Str × Addr)} {pos : Pos} {elt target iter : PySem.Expr} {I : Addr} {fp wr : List Addr} {n : Nat}
    {St : Nat → Heap → Prop} {B : Nat → (Str → Option Value) → Prop} {h₁ : Heap} {R : Nat → Heap → Value → Prop} {RR : Value → Addr → Result → Shared → Prop}
    (S : Src prog w A (fun C => compEnvC scope cl C env) target I fp wr n St B) (hn : n ≤ sizeLine) (hst : St 0 s₂.heap) (hfp : ∀ b ∈ fp, b < s₂.heap.objs.size)
    (k₁ : Ext h₁ s₂.heap) (hsz : h₁.objs.size ≤ s₂.heap.objs.size) (hw : ∀ b ∈ wr, h₁.get? b = none) {ex : List Addr} (hex : ∀ b ∈ ex, ∃ o, h₁.get? b = some o) (hcell : ∀ y ∈ scope.names, y.2 ≠ .cell) (hkind : scope.kind = .function)
    (el : ∀ i C m s', i < n → B i m → Fr h₁ C s'.heap m → (∃ h tk, s' = { s₂ with heap := h, toks := tk }) →
      wpP (model prog w) A (eval elt (compEnvC scope cl C env)) (ElPost C s' (R i)) (fun _ _ => False) s')
    (fin : ∀ D C h' tk m' ys, Off wr C D h₁ h' → h₁.get? D = none → h₁.get? C = none → C ≠ D → h'.get? D = some (lst ys) → h'.Ns C m' → ys.length = n →
      (∀ i y, ys[i]? = some y → ∀ h'', Off (ex ++ wr) C D h' h'' → R i h'' y) → RR (.ref D) C (.ok .next) { s₂ with heap := h', toks := tk }) :
    wpAny (model prog w) A (newList []) (fun acc s₃ => wpAny (model prog w) A (newFunctionEnv scope env.globals cl [] env.qual none .none (some env)) (fun cenv s₄ =>
      codeP (model prog w) A (.compStart (.ListComp elt [⟨target, iter, [], 0⟩] scope pos) 0 (.ref I) acc { cenv with scope := relabel scope env }) (RR acc cenv.locals) s₄) (fun _ _ => False) s₃) (fun _ _ => False) s₂ := by
  refine wpAny_newObj_type (wpAny_newFunctionEnv hcell (by intro y hy; simp at hy) (fun h3 hns3 hsb3 => ?_) hkind)
  dsimp only at hns3 hsb3 ⊢
  generalize hH2 : s₂.heap.push { cls := .type "list", dict := none, data := .seq ([] : List Value).toArray } = H2 at hns3 hsb3 ⊢
  have hC : H2.objs.size = s₂.heap.objs.size + 1 := by rw [← hH2, Heap.size_push]
  have hCD : H2.objs.size ≠ s₂.heap.objs.size := by rw [hC]; exact Nat.succ_ne_self _
  have below : ∀ b, b < s₂.heap.objs.size → b ≠ H2.objs.size ∧ b ≠ s₂.heap.objs.size := fun b hb => ⟨by rw [hC]; exact Nat.ne_of_lt (Nat.lt_succ_of_lt hb), Nat.ne_of_lt hb⟩
  have old : Ext s₂.heap h3 := fun b o e => hsb3.extBut b o (below b (Heap.lt_size e)).1 (Heap.get?_push_of_some _ (hH2 ▸ Heap.get?_push_of_some _ e))
  have hacc : h3.get? s₂.heap.objs.size = some (lst []) := hsb3.extBut _ _ (Ne.symm hCD) (Heap.get?_push_of_some _ (hH2 ▸ Heap.get?_push_size _ rfl))
  have hst3 : St 0 h3 := S.frame _ _ _ hst fun b _ o e => old b o e
  have fresh : ∀ a, s₂.heap.objs.size ≤ a → h₁.get? a = none := fun a ha => by
    cases e : h₁.get? a with
    | none => rfl
    | some o' => exact absurd (Heap.lt_size (k₁ a o' e)) (Nat.not_lt.mpr ha)
  have hD1 : h₁.get? s₂.heap.objs.size = none := fresh _ (Nat.le_refl _)
  have hC1 : h₁.get? H2.objs.size = none := fresh _ (by rw [hC]; exact Nat.le_succ _)
  have hDf : s₂.heap.objs.size ∉ fp := fun hm => Nat.lt_irrefl _ (hfp _ hm)
  have hCf : H2.objs.size ∉ fp := fun hm => by have := hfp _ hm; rw [hC] at this; exact Nat.lt_irrefl _ (Nat.lt_of_succ_lt this)
  have toExt : ∀ {h'}, Off wr H2.objs.size s₂.heap.objs.size h₁ h' → Ext h₁ h' := fun {h'} k b o e => k b o (fun hb => by rw [hw b hb] at e; cases e)
    (fun q => by rw [q, hC1] at e; cases e) (fun q => by rw [q, hD1] at e; cases e) e
  have loop : ∀ s₃ : Shared, s₃ = { s₂ with heap := h3, toks := s₂.toks + ([] : List (Str × Value)).length } →
      codeP (model prog w) A (.compLoop (.ListComp elt [⟨target, iter, [], 0⟩] scope pos) 0 (.ref I) (.ref s₂.heap.objs.size) (compEnvC scope cl H2.objs.size env))
        (RR (.ref s₂.heap.objs.size) H2.objs.size) s₃ := by
    rintro s₃ rfl
    refine codeP.compLoop
      (fun k s' => ∃ h' tk i ys m', s' = { s₂ with heap := h', toks := tk } ∧ i ≤ n ∧ k = n + 1 - i ∧ ys.length = i ∧ St i h' ∧ h'.Ns H2.objs.size m' ∧ h'.get? s₂.heap.objs.size = some (lst ys) ∧
        Off wr H2.objs.size s₂.heap.objs.size h₁ h' ∧ (∀ j y, ys[j]? = some y → ∀ h'', Off (ex ++ wr) H2.objs.size s₂.heap.objs.size h' h'' → R j h'' y)) ?_ (n + 1)
      ⟨h3, _, 0, [], _, rfl, Nat.zero_le _, rfl, rfl, hst3, hns3, hacc, fun b o _ _ _ e => old b o (k₁ b o e), fun j y e => by simp at e⟩
    rintro k s' ⟨h', tk, i, ys, m', rfl, hi, rfl, hyl, hst', hn', hD', k', hR'⟩
    by_cases hlt : i < n
    · refine wpAny_mono (S.turn i _ _ _ ?Q _ hlt hst' hCf hn' ?item) ?post fun _ _ e => e
      case post =>
        intro r s₁ h₁'
        cases r with
        | none => exact h₁'.elim
        | some v => exact h₁'
      case item =>
        intro h4 tk4 m4 hst4 k4 hn4 hB4
        have off4 : Off wr H2.objs.size s₂.heap.objs.size h₁ h4 := fun b o h1 h2 h3' e => k4 b o h1 h2 (k' b o h1 h2 h3' e)
        refine wpP.mono (el i _ m4 _ hlt hB4 ⟨hn4, toExt off4, by rw [hC]; exact Nat.le_succ_of_le hsz⟩ ⟨_, _, rfl⟩) (fun x s₄ hx => ?_) fun _ _ e => e
        obtain ⟨h5, tk5, m5, rfl, hn5, k5, hR5⟩ := hx
        have hDwr : s₂.heap.objs.size ∉ wr := fun q => hDf (S.sub _ q)
        have hD4 : h4.get? s₂.heap.objs.size = some (lst ys) := k4 _ _ hDwr (Ne.symm hCD) hD'
        refine append_at (its := ys.toArray) (n := ys.length) (k5 _ _ (Ne.symm hCD) hD4) (fun h6 hs6 hD6 => ?_) (by rw [List.size_toArray, hyl]; exact Nat.le_trans hi hn)
        have off6 : ∀ b o, b ≠ s₂.heap.objs.size → h5.get? b = some o → h6.get? b = some o := fun b o q e => hs6.extBut b o q e
        refine ⟨n + 1 - (i + 1), by omega, h6, tk5, i + 1, ys ++ [x], m5, rfl, hlt, rfl, by rw [List.length_append, List.length_singleton, hyl], S.frame _ _ _ hst4 fun b hb o e => off6 b o (fun q => hDf (q ▸ hb)) (k5 b o (fun q => hCf (by have q' : b = H2.objs.size := q; rw [← q']; exact hb)) e),
          hn5.sameBut hs6 hCD, hD6.trans (congrArg some (lst_push ys x)), fun b o h1 h2 h3' e => off6 b o h3' (k5 b o h2 (off4 b o h1 h2 h3' e)), fun j y e h'' k'' => ?_⟩
        by_cases hj : j < ys.length
        · rw [List.getElem?_append_left hj] at e
          exact hR' j y e h'' fun b o h1 h2 h3' e' => k'' b o h1 h2 h3' (off6 b o h3' (k5 b o h2 (k4 b o (fun q => h1 (List.mem_append_right _ q)) h2 e')))
        · have hj' : j = ys.length := by
            have := (List.getElem?_eq_some_iff.mp e).1
            rw [List.length_append, List.length_singleton] at this
            omega
          subst hj'
          rw [List.getElem?_append_right (Nat.le_refl _), Nat.sub_self] at e
          obtain rfl : x = y := by simpa using e
          rw [hyl]
          refine hR5 h'' fun b o e1 e2 => ?_
          have nb : ∀ c o', h4.get? c = some o' → b ≠ c := fun c o' ec q => by
            have e1' : h4.get? b = none := e1
            rw [q, ec] at e1'; cases e1'
          have bD := nb _ _ hD4
          obtain ⟨oC, _, _, hoC, _⟩ := hn4
          have bC := nb _ _ hoC
          have bw : b ∉ wr := fun q => by
            have e1' : h4.get? b = none := e1
            obtain ⟨o', ho'⟩ := S.live _ _ hst4 b q
            rw [e1'] at ho'; cases ho'
          have bx : b ∉ ex := fun q => by
            obtain ⟨o', ho'⟩ := hex b q
            exact nb _ _ (toExt off4 b o' ho') rfl
          exact k'' b o (fun q => (List.mem_append.mp q).elim bx bw) bC bD (off6 b o bD e2)
    · obtain rfl : i = n := Nat.le_antisymm hi (Nat.not_lt.mp hlt)
      refine S.done _ _ _ hst' fun h4 tk4 k4 => ?_
      have hDwr : s₂.heap.objs.size ∉ wr := fun q => hDf (S.sub _ q)
      have hCwr : H2.objs.size ∉ wr := fun q => hCf (S.sub _ q)
      refine fin _ _ h4 tk4 m' ys (fun b o h1 h2 h3' e => k4 b o h1 (k' b o h1 h2 h3' e)) hD1 hC1 hCD (k4 _ _ hDwr hD') (hn'.at' fun o e => k4 _ o hCwr e) hyl fun j y e h'' k'' => ?_
      exact hR' j y e h'' fun b o h1 h2 h3' e' => k'' b o h1 h2 h3' (k4 b o (fun q => h1 (List.mem_append_right _ q)) e')
  exact codeP.startComp (loop _ rfl) (S.self 0 _ _ _ hst3 (loop _ rfl))
section
variable {prog : Program} {w : World} {A : Around} {E : Value → Shared → Prop} {s : Shared} {env : Env} {scope : Scope} {cl : List (Str × Addr)} {pos : Pos} {elt target iter : PySem.Expr} {g : Heap} {L : Addr} {m : Str → Option Value} {news : List (Addr × Obj)}
  {fin : Shared → Heap → Nat → (Nat → Heap → Value → Prop) → Prop} {a b x : Str} {pa pb tp px : Pos} {kk : Nat}
/-- what is to be shown of an iterator that the block walks over -/
def CompItP (prog : Program) (w : World) (A : Around) (env : Env) (scope : Scope) (cl : List (Str × Addr)) (elt target : PySem.Expr) (g : Heap) (L : Addr) (m : Str → Option Value) (news : List (Addr × Obj))
    (fin : Shared → Heap → Nat → (Nat → Heap → Value → Prop) → Prop) (it : Value) (s₂ : Shared) : Prop :=
  ∃ (I : Addr) (fp wr : List Addr) (n : Nat) (St : Nat → Heap → Prop) (B : Nat → (Str → Option Value) → Prop) (h₁ : Heap) (R : Nat → Heap → Value → Prop), it = .ref I ∧
    Src prog w A (fun C => compEnvC scope cl C env) target I fp wr n St B ∧ n ≤ sizeLine ∧ St 0 s₂.heap ∧ (∀ b ∈ fp, b < s₂.heap.objs.size) ∧ Ext h₁ s₂.heap ∧ h₁.objs.size ≤ s₂.heap.objs.size ∧ (∀ b ∈ wr, h₁.get? b = none) ∧
    Fr g L h₁ m ∧ News g L h₁ news ∧
    (∀ i C m s', i < n → B i m → Fr h₁ C s'.heap m → (∃ h tk, s' = { s₂ with heap := h, toks := tk }) →
      wpP (model prog w) A (eval elt (compEnvC scope cl C env)) (ElPost C s' (R i)) (fun _ _ => False) s') ∧
    fin s₂ h₁ n R
theorem comp_evalP {Q : Value → Shared → Prop} (_F₀ : Fr g L s.heap m) (_N₀ : News g L s.heap news) (hclos : closureFor scope env = pure cl) (hcell : ∀ y ∈ scope.names, y.2 ≠ .cell) (hkind : scope.kind = .function)
    (hnames : ∀ y ∈ scope.names, y.2 = .local → scope.names.lookup y.1 = some .local)
    (h : wpAny (model prog w) A (eval iter env) (fun xv s₁ => wpAny (model prog w) A (pyIter xv) (CompItP prog w A env scope cl elt target g L m news (FinEv g L m news Q)) (fun _ _ => False) s₁) (fun _ _ => False) s)
    (hs : ∀ x, foldedSetIterable iter env x = pure x := by intro _; rfl) :
    wpP (model prog w) A (eval (.ListComp elt [⟨target, iter, [], 0⟩] scope pos) env) Q (fun _ _ => False) s := by
  rw [eval_ListComp]
  refine wpP.comprehension_free rfl hs hclos hkind hnames (wpAny_mono h (fun xv s₁ h₁ => wpAny_mono h₁ (fun it s₂ h₂ => ?_) fun _ _ e => e) fun _ _ e => e)
  obtain ⟨I, fp, wr, n, St, B, h₁, R, rfl, S, hn, hst, hfp, k₁, hsz, hw, F, N, el, fin⟩ := h₂
  refine comp_srcP (R := R) (ex := [L]) S hn hst hfp k₁ hsz hw (frame_live F) hcell hkind el fun D C h' tk m' ys off hD hC hCD hd hC' hl hR => ?_
  have kx : Ext h₁ h' := fun b o e => off b o (fun hb => by rw [hw b hb] at e; cases e) (fun q => by rw [q, hC] at e; cases e) (fun q => by rw [q, hD] at e; cases e) e
  refine ⟨m', hC', fun h'' hs'' => ?_⟩
  have kc : ∀ b o, b ≠ C → h'.get? b = some o → h''.get? b = some o := fun b o hb e => hs''.extBut b o hb e
  have kx' : Ext h₁ h'' := fun b o e => kc b o (fun q => by rw [q, hC] at e; cases e) (kx b o e)
  refine fin D h'' tk ys kx' (F.keeps kx') (fun p hp => ?_) hD hl fun i y e => hR i y e h'' fun b o _ h2 _ e' => kc b o h2 e'
  rcases List.mem_cons.mp hp with rfl | hp
  · refine ⟨kc _ _ (Ne.symm hCD) hd, fun q => ?_, ?_⟩
    · obtain ⟨o, ho⟩ := frame_live F L (List.mem_singleton.mpr rfl)
      rw [← q] at ho
      exact absurd (ho.symm.trans hD) (by simp)
    · cases q : g.get? D with
      | none => rfl
      | some o => have := F.keep D o q; rw [hD] at this; cases this
  · exact ⟨kx' _ _ (N p hp).1, (N p hp).2⟩
/-- a made list of pairs -/
theorem pairs_iterP {l : Addr} {items : Array Value} {Ts : Nat → Addr} {v0 v1 : Nat → Value} (hh : A.handled = none) (ha : scope.names.lookup a = some .local) (hb : scope.names.lookup b = some .local) (hab : a ≠ b) (hkind : scope.kind = .function)
    (F : Fr g L s.heap m) (N : News g L s.heap news) (hl : s.heap.IsList l items) (hz : items.size ≤ sizeLine) (hT : ∀ j, j < items.size → items[j]? = some (.ref (Ts j)) ∧ s.heap.IsTuple (Ts j) #[v0 j, v1 j]) (R : Nat → Heap → Value → Prop)
    (el : ∀ i C m' s', i < items.size → m' a = some (v0 i) → m' b = some (v1 i) → Fr s.heap C s'.heap m' → (∃ h tk, s' = { s with heap := h, toks := tk }) →
      wpP (model prog w) A (eval elt (compEnvC scope cl C env)) (ElPost C s' (R i)) (fun _ _ => False) s')
    (hfin : ∀ s₂, (∃ h tk, s₂ = { s with heap := h, toks := tk }) → fin s₂ s.heap items.size R) :
    wpAny (model prog w) A (pyIter (.ref l)) (CompItP prog w A env scope cl elt (.Tuple [.Name a pa, .Name b pb] kk tp) g L m news fin) E s := by
  obtain ⟨ol, hol, _⟩ := id hl
  have hlt : l < s.heap.objs.size := Heap.lt_size hol
  have hTlt : ∀ j, j < items.size → Ts j < s.heap.objs.size := fun j hj => by
    obtain ⟨_, o, ho, _⟩ := hT j hj
    exact Heap.lt_size ho
  refine wpAny_pyIter_list hl ?_
  have W := WalksU.listOfTuples (prog := prog) (w := w) hh s.heap.objs.size l (Nat.ne_of_lt hlt) items Ts (fun j => #[v0 j, v1 j]) (fun j hj => (hT j hj).1) (fun j hj => Nat.ne_of_lt (hTlt j hj))
  have W' := W.bound
  refine ⟨s.heap.objs.size, _, _, items.size, _, _, s.heap, R, rfl, Src.pair (P := fun i x y => i < items.size ∧ x = v0 i ∧ y = v1 i) hh W' ?_ ?_ ha hb hab hkind, hz, ⟨⟨_, Heap.get?_push_size _ rfl, rfl, rfl⟩, hl.push _, fun k hk => (hT k hk).2.push _⟩, ?_, fun b o e => Heap.get?_push_of_some _ e, ?_, ?_, F, N, ?_, hfin _ ⟨_, s.toks, rfl⟩⟩
  · rintro i vals ⟨hi, rfl⟩
    exact ⟨_, _, rfl, hi, rfl, rfl⟩
  · rintro i h ⟨⟨o, ho, _⟩, _⟩ c hc
    rw [List.mem_singleton.mp hc]; exact ⟨_, ho⟩
  · intro c hc
    show c < (s.heap.push _).objs.size
    rw [Heap.size_push]
    rcases List.mem_cons.mp hc with rfl | hc
    · exact Nat.lt_succ_self _
    · rcases List.mem_cons.mp hc with rfl | hc
      · exact Nat.lt_succ_of_lt hlt
      · obtain ⟨j, hj, rfl⟩ := List.mem_map.mp hc
        exact Nat.lt_succ_of_lt (hTlt j (List.mem_range.mp hj))
  · show _ ≤ (s.heap.push _).objs.size
    rw [Heap.size_push]; exact Nat.le_succ _
  · intro c hc
    rw [List.mem_singleton.mp hc]; exact Heap.get?_none_of_le (Nat.le_refl _)
  · rintro i C m' s' hi ⟨x, y, ⟨_, rfl, rfl⟩, h0, h1⟩ F' ⟨h2, tk2, e2⟩
    exact el i C m' s' hi h0 h1 F' ⟨h2, tk2, e2⟩
end
end Mine
-- part Q1
namespace Mine
theorem dig_succ (x : Int) (n : Nat) : dig x (n + 1) = x % 256 :: dig (x / 256) n := by
  unfold dig
  rw [List.range_succ_eq_map, List.map_cons, List.map_map]
  congr 1
  · simp
  · apply List.map_congr_left
    intro i _
    show x / 256 ^ (i + 1) % 256 = x / 256 / 256 ^ i % 256
    rw [Int.pow_succ, Int.mul_comm, Int.ediv_ediv_of_nonneg (by decide)]
theorem lev_dig : ∀ (n : Nat) (x : Int), 0 ≤ x → x < 256 ^ n → lev (dig x n) = x
  | 0, x, h0, h1 => by
    have e : dig x 0 = [] := rfl
    rw [e, lev]; rw [Int.pow_zero] at h1; omega
  | n + 1, x, h0, h1 => by
    rw [dig_succ, lev, lev_dig n (x / 256) (by omega) ?_]
    · omega
    · rw [Int.pow_succ] at h1
      generalize (256 : Int) ^ n = p at h1 ⊢
      omega
theorem dig_one {x : Int} (h0 : 0 ≤ x) (h1 : x < 256) : dig x 1 = [x] := by
  have e : dig (x / 256) 0 = [] := rfl
  rw [dig_succ, e, Int.emod_eq_of_lt h0 h1]
/-- the running sums -/
noncomputable def step4 (s : Int × Int × Int × Int) (v : Int) : Int × Int × Int × Int :=
  let one := (s.1 + v) % M32
  let two := (s.2.1 + one) % M32
  let three := (s.2.2.1 + two) % M32
  (one, two, three, (s.2.2.2 + three) % M32)
noncomputable def stepU (s : Int × Int × Int × Int) (v : Int) : Int × Int × Int × Int :=
  (s.1 + v, s.2.1 + (s.1 + v), s.2.2.1 + (s.2.1 + (s.1 + v)), s.2.2.2 + (s.2.2.1 + (s.2.1 + (s.1 + v))))
noncomputable def modd (s : Int × Int × Int × Int) : Int × Int × Int × Int := (s.1 % M32, s.2.1 % M32, s.2.2.1 % M32, s.2.2.2 % M32)
theorem modd_idem (s) : modd (modd s) = modd s := by simp [modd]
theorem step4_U (s v) : step4 (modd s) v = modd (stepU s v) := by
  unfold step4 modd stepU
  simp only [Int.emod_add_emod, Int.add_emod_emod]
theorem fold_U : ∀ (ws : List Int) (s), List.foldl step4 (modd s) ws = modd (List.foldl stepU s ws)
  | [], s => rfl
  | w :: r, s => by rw [List.foldl_cons, List.foldl_cons, step4_U, fold_U r]
/-- weighted sums from the front -/
noncomputable def wS (f : Int → Int) : List Int → Int
  | [] => 0
  | w :: r => f ((r.length : Int) + 1) * w + wS f r
theorem flS_wS (f : Int → Int) : ∀ ws, flS f ws = wS f ws
  | [] => rfl
  | w :: r => by
    rw [wS, ← flS_wS f r]
    unfold flS
    rw [List.length_cons, List.range_succ_eq_map, List.map_cons, List.map_map, List.sum_cons]
    have e1 : f (((r.length + 1 : Nat) : Int) - ((0 : Nat) : Int)) * (w :: r).getD 0 0 = f ((r.length : Int) + 1) * w := by
      simp
    have e2 : List.map ((fun (i : Nat) => f (((r.length + 1 : Nat) : Int) - (i : Int)) * (w :: r).getD i 0) ∘ Nat.succ) (List.range r.length) = (List.range r.length).map fun (i : Nat) => f ((r.length : Int) - (i : Int)) * r.getD i 0 := by
      apply List.map_congr_left
      intro i _
      show f (((r.length + 1 : Nat) : Int) - ((i + 1 : Nat) : Int)) * (w :: r).getD (i + 1) 0 = _
      rw [List.getD_cons_succ]
      congr 2
      omega
    rw [e1, e2]
theorem f2_succ (n : Nat) : f2 ((n : Int) + 1) = f2 n + ((n : Int) + 1) := by
  unfold f2
  rw [Int.fdiv_eq_ediv_of_nonneg _ (by decide), Int.fdiv_eq_ediv_of_nonneg _ (by decide)]
  have : ((n : Int) + 1) * ((n : Int) + 1 + 1) = (n : Int) * ((n : Int) + 1) + ((n : Int) + 1) * 2 := by
    rw [Int.mul_add, Int.mul_add, Int.add_mul, Int.mul_add]; omega
  rw [this, Int.add_mul_ediv_right _ _ (by decide)]
theorem six_dvd (n : Nat) : (n * (n + 1) * (n + 2)) % 6 = 0 := by
  have h : n % 6 < 6 := Nat.mod_lt _ (by decide)
  have : (n * (n + 1) * (n + 2)) % 6 = ((n % 6) * ((n % 6) + 1) * ((n % 6) + 2)) % 6 := by
    rw [Nat.mul_mod, Nat.mul_mod n (n + 1), Nat.add_mod n 1, Nat.add_mod n 2]
    conv => rhs; rw [Nat.mul_mod, Nat.mul_mod (n % 6) (n % 6 + 1)]
    simp
  rw [this]
  generalize n % 6 = k at h
  match k, h with
  | 0, _ => rfl
  | 1, _ => rfl
  | 2, _ => rfl
  | 3, _ => rfl
  | 4, _ => rfl
  | 5, _ => rfl
theorem two_dvd (n : Nat) : (n * (n + 1)) % 2 = 0 := by
  rw [Nat.mul_mod, Nat.add_mod]
  rcases Nat.mod_two_eq_zero_or_one n with h | h <;> rw [h]
theorem f3_succ (n : Nat) : f3 ((n : Int) + 1) = f3 n + f2 ((n : Int) + 1) := by
  unfold f3 f2
  rw [Int.fdiv_eq_ediv_of_nonneg _ (by decide), Int.fdiv_eq_ediv_of_nonneg _ (by decide), Int.fdiv_eq_ediv_of_nonneg _ (by decide)]
  have h6 := six_dvd n
  have h6' := six_dvd (n + 1)
  have h2 := two_dvd (n + 1)
  have e1 : (n : Int) * ((n : Int) + 1) * ((n : Int) + 2) = ((n * (n + 1) * (n + 2) : Nat) : Int) := by simp
  have e2 : ((n : Int) + 1) * ((n : Int) + 1 + 1) * ((n : Int) + 1 + 2) = (((n + 1) * (n + 1 + 1) * (n + 1 + 2) : Nat) : Int) := by simp
  have e3 : ((n : Int) + 1) * ((n : Int) + 1 + 1) = (((n + 1) * (n + 1 + 1) : Nat) : Int) := by simp
  rw [e1, e2, e3]
  have e4 : (n + 1) * (n + 1 + 1) * (n + 1 + 2) = n * (n + 1) * (n + 2) + 3 * ((n + 1) * (n + 1 + 1)) := by
    have : n + 1 + 2 = n + 3 := rfl
    rw [this, Nat.mul_add ((n + 1) * (n + 1 + 1)) n 3, Nat.mul_comm ((n+1)*(n+1+1)) n, ← Nat.mul_assoc, Nat.mul_comm _ 3]
  omega
theorem foldU : ∀ (ws : List Int) (a b c d : Int), List.foldl stepU (a, b, c, d) ws =
    (a + ws.sum, b + ws.length * a + wS id ws, c + ws.length * b + f2 ws.length * a + wS f2 ws, d + ws.length * c + f2 ws.length * b + f3 ws.length * a + wS f3 ws)
  | [], a, b, c, d => by
    have z2 : f2 0 = 0 := rfl
    have z3 : f3 0 = 0 := rfl
    simp [wS, z2, z3]
  | w :: r, a, b, c, d => by
    rw [List.foldl_cons, show stepU (a, b, c, d) w = (a + w, b + (a + w), c + (b + (a + w)), d + (c + (b + (a + w)))) from rfl, foldU r]
    simp only [wS, List.length_cons, List.sum_cons, Int.natCast_add, Int.natCast_one, f3_succ, f2_succ, id]
    generalize f2 (r.length : Int) = g2
    generalize f3 (r.length : Int) = g3
    generalize (r.length : Int) = n
    refine Prod.ext (by dsimp only; omega) (Prod.ext ?_ (Prod.ext ?_ ?_)) <;> dsimp only <;> simp only [Int.mul_add, Int.add_mul, Int.one_mul] <;> omega
/-- what the law's own sum gives -/
theorem run_sums (ws : List Int) : List.foldl step4 (0, 0, 0, 0) ws = (ws.sum % M32, flS id ws % M32, flS f2 ws % M32, flS f3 ws % M32) := by
  have e : ((0, 0, 0, 0) : Int × Int × Int × Int) = modd (0, 0, 0, 0) := rfl
  rw [e, fold_U, foldU, flS_wS, flS_wS, flS_wS]
  simp [modd]
/-- what stands ahead of a block's sums -/
noncomputable def blockBody (chain number : Int) (rows : List Int) (v0 v1 v2 birth : Int) (n : Nat) : List Int :=
  dig chain 4 ++ dig number 3 ++ dig (rows.length : Int) 2 ++ dig v0 1 ++ dig v1 4 ++ dig v2 2 ++ dig birth 4 ++ rows ++ List.replicate (n - 20 - rows.length) 0
noncomputable def sumInts (ks : List Int) : List Int :=
  dig ((words ((ks.length + 3) / 4) ks).sum % M32) 4 ++ dig (flS id (words ((ks.length + 3) / 4) ks) % M32) 4 ++ dig (flS f2 (words ((ks.length + 3) / 4) ks) % M32) 4 ++ dig (flS f3 (words ((ks.length + 3) / 4) ks) % M32) 4
/-- what block_of finds -/
noncomputable def parseB (ks : List Int) (chain number : Int) : Option (List Int × (Int × Int × Int) × Int) :=
  if ks.length < 36 then none else
  if sumInts (ks.take (ks.length - 16)) ≠ ks.drop (ks.length - 16) then none else
  if lev ((ks.drop 0).take 4) ≠ chain then none else
  if lev ((ks.drop 4).take 3) ≠ number then none else
  if (ks.length : Int) - 36 < lev ((ks.drop 7).take 2) then none else
  some ((ks.drop 20).take (lev ((ks.drop 7).take 2)).toNat, (lev ((ks.drop 9).take 1), lev ((ks.drop 10).take 4), lev ((ks.drop 14).take 2)), lev ((ks.drop 16).take 4))
end Mine
-- part Q2
namespace Mine
theorem seg {l a b c : List Int} {i j : Nat} (e : l = a ++ (b ++ c)) (hi : a.length = i) (hj : b.length = j) : (l.drop i).take j = b := by
  subst e hi hj
  rw [List.drop_left, List.take_left]
theorem sumInts_length (ks : List Int) : (sumInts ks).length = 16 := by
  unfold sumInts
  simp only [List.length_append, dig_length]
theorem blockBody_length {chain number v0 v1 v2 birth : Int} {rows : List Int} {n : Nat} (h : 20 + rows.length ≤ n) : (blockBody chain number rows v0 v1 v2 birth n).length = n := by
  unfold blockBody
  simp only [List.length_append, dig_length, List.length_replicate]
  omega
theorem parse_block {chain number v0 v1 v2 birth : Int} {rows : List Int} {n : Nat} (h : 20 + rows.length ≤ n) (hn : n ≤ 100)
    (hc : 0 ≤ chain ∧ chain < 256 ^ 4) (hm : 0 ≤ number ∧ number < 256 ^ 3) (h0 : 0 ≤ v0 ∧ v0 < 256 ^ 1) (h1 : 0 ≤ v1 ∧ v1 < 256 ^ 4) (h2 : 0 ≤ v2 ∧ v2 < 256 ^ 2) (hb : 0 ≤ birth ∧ birth < 256 ^ 4) :
    parseB (blockBody chain number rows v0 v1 v2 birth n ++ sumInts (blockBody chain number rows v0 v1 v2 birth n)) chain number = some (rows, (v0, v1, v2), birth) := by
  have hl := blockBody_length (chain := chain) (number := number) (v0 := v0) (v1 := v1) (v2 := v2) (birth := birth) h
  have hS := sumInts_length (blockBody chain number rows v0 v1 v2 birth n)
  generalize hSS : sumInts (blockBody chain number rows v0 v1 v2 birth n) = S at hS
  have hr : (rows.length : Int) < 256 ^ 2 := by
    rw [show (256 : Int) ^ 2 = 65536 from by decide]; omega
  have hL : (blockBody chain number rows v0 v1 v2 birth n ++ S).length = n + 16 := by rw [List.length_append, hl, hS]
  have e : blockBody chain number rows v0 v1 v2 birth n ++ S = dig chain 4 ++ (dig number 3 ++ (dig (rows.length : Int) 2 ++ (dig v0 1 ++ (dig v1 4 ++ (dig v2 2 ++ (dig birth 4 ++ (rows ++ (List.replicate (n - 20 - rows.length) 0 ++ S)))))))) := by
    unfold blockBody
    simp only [List.append_assoc]
  have eN : n + 16 - 16 = n := by omega
  have t : (blockBody chain number rows v0 v1 v2 birth n ++ S).take n = blockBody chain number rows v0 v1 v2 birth n := List.take_left' hl
  have d : (blockBody chain number rows v0 v1 v2 birth n ++ S).drop n = S := List.drop_left' hl
  unfold parseB
  rw [hL, eN, t, d, hSS, if_neg (by omega), if_neg (fun z => z rfl)]
  have s0 : ((blockBody chain number rows v0 v1 v2 birth n ++ S).drop 0).take 4 = dig chain 4 := seg (a := []) e rfl (dig_length _ _)
  have s1 : ((blockBody chain number rows v0 v1 v2 birth n ++ S).drop 4).take 3 = dig number 3 := seg e (dig_length _ _) (dig_length _ _)
  have s2 : ((blockBody chain number rows v0 v1 v2 birth n ++ S).drop 7).take 2 = dig (rows.length : Int) 2 := seg (a := dig chain 4 ++ dig number 3) (by rw [e]; simp only [List.append_assoc]; rfl) (by simp only [List.length_append, dig_length]) (dig_length _ _)
  have s3 : ((blockBody chain number rows v0 v1 v2 birth n ++ S).drop 9).take 1 = dig v0 1 := seg (a := dig chain 4 ++ dig number 3 ++ dig (rows.length : Int) 2) (by rw [e]; simp only [List.append_assoc]; rfl) (by simp only [List.length_append, dig_length]) (dig_length _ _)
  have s4 : ((blockBody chain number rows v0 v1 v2 birth n ++ S).drop 10).take 4 = dig v1 4 := seg (a := dig chain 4 ++ dig number 3 ++ dig (rows.length : Int) 2 ++ dig v0 1) (by rw [e]; simp only [List.append_assoc]; rfl) (by simp only [List.length_append, dig_length]) (dig_length _ _)
  have s5 : ((blockBody chain number rows v0 v1 v2 birth n ++ S).drop 14).take 2 = dig v2 2 := seg (a := dig chain 4 ++ dig number 3 ++ dig (rows.length : Int) 2 ++ dig v0 1 ++ dig v1 4) (by rw [e]; simp only [List.append_assoc]; rfl) (by simp only [List.length_append, dig_length]) (dig_length _ _)
  have s6 : ((blockBody chain number rows v0 v1 v2 birth n ++ S).drop 16).take 4 = dig birth 4 := seg (a := dig chain 4 ++ dig number 3 ++ dig (rows.length : Int) 2 ++ dig v0 1 ++ dig v1 4 ++ dig v2 2) (by rw [e]; simp only [List.append_assoc]; rfl) (by simp only [List.length_append, dig_length]) (dig_length _ _)
  have s7 : ((blockBody chain number rows v0 v1 v2 birth n ++ S).drop 20).take (rows.length : Int).toNat = rows := seg (a := dig chain 4 ++ dig number 3 ++ dig (rows.length : Int) 2 ++ dig v0 1 ++ dig v1 4 ++ dig v2 2 ++ dig birth 4) (by rw [e]; simp only [List.append_assoc]; rfl) (by simp only [List.length_append, dig_length]) (Int.toNat_natCast _).symm
  rw [s0, lev_dig 4 chain hc.1 hc.2, if_neg (fun z => z rfl), s1, lev_dig 3 number hm.1 hm.2, if_neg (fun z => z rfl), s2, lev_dig 2 _ (Int.natCast_nonneg _) hr, if_neg (by omega), s7, s3, lev_dig 1 v0 h0.1 h0.2, s4, lev_dig 4 v1 h1.1 h1.2, s5, lev_dig 2 v2 h2.1 h2.2, s6, lev_dig 4 birth hb.1 hb.2]
theorem lev_set : ∀ (ks : List Int) (i : Nat) (v : Int) (h : i < ks.length), lev (ks.set i v) = lev ks + (v - ks[i]) * 256 ^ i
  | k :: r, 0, v, _ => by simp only [List.set_cons_zero, lev, List.getElem_cons_zero, Int.pow_zero]; omega
  | k :: r, i + 1, v, h => by
    have h' : i < r.length := by simpa using h
    rw [List.set_cons_succ, lev, lev, lev_set r i v h', List.getElem_cons_succ, Int.pow_succ, ← Int.mul_assoc, Int.mul_comm _ 256, Int.mul_add]
    omega
theorem words_set : ∀ (m : Nat) (ks : List Int) (i : Nat) (v : Int) (h : i < ks.length), (ks.length + 3) / 4 ≤ m → (words m (ks.set i v)).sum = (words m ks).sum + (v - ks[i]) * 256 ^ (i % 4)
  | 0, ks, i, v, h, hm => by omega
  | m + 1, ks, i, v, h, hm => by
    rw [words, words, List.sum_cons, List.sum_cons]
    by_cases h4 : i < 4
    · have e1 : (ks.set i v).take 4 = (ks.take 4).set i v := List.take_set
      have e2 : (ks.set i v).drop 4 = ks.drop 4 := List.drop_set_of_lt h4
      rw [e1, e2, lev_set (ks.take 4) i v (by rw [List.length_take]; omega), List.getElem_take, Nat.mod_eq_of_lt h4]
      omega
    · have e1 : (ks.set i v).take 4 = ks.take 4 := List.take_set_of_le (by omega)
      have e2 : (ks.set i v).drop 4 = (ks.drop 4).set (i - 4) v := by rw [List.drop_set]; rw [if_neg (by omega)]
      rw [e1, e2, words_set m (ks.drop 4) (i - 4) v (by rw [List.length_drop]; omega) (by rw [List.length_drop]; omega)]
      have e3 : (ks.drop 4)[i - 4]'(by rw [List.length_drop]; omega) = ks[i] := by
        rw [List.getElem_drop]; congr 1; omega
      have e4 : (i - 4) % 4 = i % 4 := by omega
      rw [e3, e4]
      omega
theorem sumInts_set {ks : List Int} {i : Nat} {v : Int} (h : i < ks.length) (hk : 0 ≤ ks[i] ∧ ks[i] < 256) (hv : 0 ≤ v ∧ v < 256) (hne : v ≠ ks[i]) : sumInts (ks.set i v) ≠ sumInts ks := by
  intro q
  have q1 := congrArg (List.take 4) q
  unfold sumInts at q1
  rw [List.append_assoc, List.append_assoc, List.append_assoc, List.append_assoc, List.take_left' (dig_length _ _), List.take_left' (dig_length _ _)] at q1
  have b : ∀ y : Int, 0 ≤ y % M32 ∧ y % M32 < 256 ^ 4 := fun y => ⟨Int.emod_nonneg _ (by decide), Int.emod_lt_of_pos _ (by decide)⟩
  have q2 := congrArg lev q1
  rw [lev_dig 4 _ (b _).1 (b _).2, lev_dig 4 _ (b _).1 (b _).2, List.length_set, words_set _ ks i v h (Nat.le_refl _)] at q2
  generalize (words ((ks.length + 3) / 4) ks).sum = S at q2
  generalize ks[i] = k at q2 hk hne
  unfold M32 at q2
  have hr : i % 4 < 4 := Nat.mod_lt _ (by decide)
  generalize i % 4 = r at q2 hr
  have key : ∀ p : Int, p = 1 ∨ p = 256 ∨ p = 65536 ∨ p = 16777216 → S % 4294967296 ≠ (S + (v - k) * p) % 4294967296 := by
    rintro p (rfl | rfl | rfl | rfl) <;> omega
  refine key (256 ^ r) ?_ q2.symm
  match r, hr with
  | 0, _ => exact .inl rfl
  | 1, _ => exact .inr (.inl rfl)
  | 2, _ => exact .inr (.inr (.inl rfl))
  | 3, _ => exact .inr (.inr (.inr rfl))
/-- with one octet otherwise nothing is told -/
theorem parse_wrong {B : List Int} {i : Nat} {v chain number : Int} (hB : Oct B) (h : i < B.length + 16) (hv : 0 ≤ v ∧ v < 256) (hne : v ≠ (B ++ sumInts B).getD i 0) : parseB ((B ++ sumInts B).set i v) chain number = none := by
  have hS := sumInts_length B
  have hL : ((B ++ sumInts B).set i v).length - 16 = B.length := by rw [List.length_set, List.length_append, hS]; omega
  unfold parseB
  split
  · rfl
  rw [hL, if_pos]
  by_cases hi : i < B.length
  · rw [List.set_append_left _ _ hi, List.take_left' (List.length_set ..), List.drop_left' (List.length_set ..)]
    rw [List.getD_eq_getElem?_getD, List.getElem?_append_left hi, List.getElem?_eq_getElem hi] at hne
    exact sumInts_set hi (hB _ (List.getElem_mem hi)) hv hne
  · rw [List.set_append_right _ _ (by omega), List.take_left' rfl, List.drop_left' rfl]
    intro q
    have hj : i - B.length < (sumInts B).length := by rw [hS]; omega
    rw [List.getD_eq_getElem?_getD, List.getElem?_append_right (by omega), List.getElem?_eq_getElem hj] at hne
    have q' := congrArg (fun l : List Int => l[i - B.length]?) q
    simp only [List.getElem?_set_self hj, List.getElem?_eq_getElem hj] at q'
    exact hne (Option.some.inj q').symm
theorem lev_zeros : ∀ n, lev (List.replicate n 0) = 0
  | 0 => rfl
  | n + 1 => by rw [List.replicate_succ, lev, lev_zeros n]; rfl
theorem parse_zeros {n : Nat} {chain number : Int} (h : chain ≠ 0) : parseB (List.replicate n 0) chain number = none := by
  unfold parseB
  split
  · rfl
  split
  · rfl
  rw [if_pos]
  rw [List.drop_zero, List.take_replicate, lev_zeros]
  exact fun q => h q.symm
end Mine
-- part Hp
namespace Mine
theorem clean_caller : Clean ⟨.builtin "claim.caller" {}, none, none, [], none⟩ := fun _ _ => rfl
theorem thread_ends_P {prog : Program} {w : World} {t : Sem Fin} {s : Shared} {R : Result → Shared → Prop} (hz : s.asleep)
    (h : wpP (model prog w) callerA t (fun fin s' => ∃ f, fin = .done f ∧ R (.ok f) s' ∧ leftWithCleanup s'.gens = false) (fun _ _ => False) s) :
    ∃ n r s' s'', runN (denote table) prog w n s ⟨t, .builtin "claim.caller" {}, default, []⟩ = .halted (outcomeOf r) s' ∧
      schedN (denote table) prog w n (.single s ⟨t, .builtin "claim.caller" {}, default, []⟩) = .halted (outcomeOf r) s' ∧ s'.forget = s''.forget ∧ R r s'' := by
  have h1 := Sem.wp_mono (model prog w) _ t (post' := fun f p' s' => Sem.finPost (model prog w) ⟨.builtin "claim.caller" {}, none, none, [], none⟩ (fun r s' => R r s' ∧ leftWithCleanup s'.gens = false) f p' s')
    (exc' := fun e _ s' => R (.error e) s' ∧ leftWithCleanup s'.gens = false) (fun fin p' s' h' => by obtain ⟨f, rfl, hf⟩ := h'; exact hf) (fun _ _ _ h' => h'.elim) default s (h _ default caller_in clean_caller)
  obtain ⟨n, r, s₁, s₂, a, b, c, d⟩ := wp_halts_full (M := model prog w) hz h1
  exact ⟨n, r, s₂, s₁, b, a, c, d⟩
/-- a law's claim, by a proof of its call at clean contexts alone -/
theorem law_holds {l : OpenLaw} {q : Program} {loose : List Str} {Xt : Shared → Bool} {XP : (Str → Option Value) → Heap → Prop} {α : Type} {Yf : Shared → α} {Ya : World → α} {YP : World → Heap → Prop} {d : DefRec} {kwd : List (Str × Expr)} {N : Nat}
    (left : LeftO l.prog q loose Xt Yf Ya N) (hY : ∀ w s, Yf s = Ya w → YP w s.heap) (hYk : ∀ w h h', YP w h → (∀ b o, h.get? b = some o → h'.get? b = some o) → YP w h')
    (hX : ∀ s, Xt s = true → XP (s.heap.nsMap mainGlobals) s.heap) (hXk : ∀ mg h h', XP mg h → (∀ b o, h.get? b = some o → h'.get? b = some o) → XP mg h')
    (hdef : defOf q l.name = some (d, kwd)) (hp : l.prog.theDef l.name = some (d.params, d.body, d.scope)) (hk : kwWritten? d.params.kwonlyargs d.params.kw_defaults = some kwd)
    (hwf : l.writes = false) (said : l.row.wellSaid = true) (ok : (chainsOk q && opensWell l.prog && (frees l.row.toRowW && l.row.within.isEmpty)) = true) (hb : l.prog.bare) (hw : l.row.toRowW.promised)
    (call : ∀ (w : World) (s₀ s₁ : Shared) (mg mb : Str → Option Value) (f : Value), Ground q loose [] XP w s₀ mg mb s₁.heap → YP w s₁.heap → mg l.name = some f → ∀ (args : List WData) (vs : List Value) (as : List Addr),
      l.row.claim.pre args = true → WData.layableAll args = true → ReadsAllW [] (classAt s₀.heap) s₁.heap vs args as → WellAll w.params s₁.heap vs args → (∀ a ∈ as, (a == sysModules) = false) →
        wpP (model l.prog w) callerA (PySem.call f vs) (fun v s' => v = .bool true ∧ ∃ h' tk, (∀ b o, s₁.heap.get? b = some o → h'.get? b = some o) ∧ s' = { s₁ with heap := h', toks := tk }) (fun _ _ => False) s₁) : l.row.Holds := by
  refine ⟨said, hw, ?_⟩
  obtain ⟨ok, k5⟩ := Bool.and_eq_true_iff.mp ok
  obtain ⟨hch, o1⟩ := Bool.and_eq_true_iff.mp ok
  obtain ⟨k5, k6⟩ := Bool.and_eq_true_iff.mp k5
  obtain ⟨hsame, hu, ha, hap, hm⟩ := frees_parts k5
  refine ⟨⟨hb, o1, rfl⟩, hw.witness, fun w => ⟨(left.behind hX hch w).1, fun s' hs' => ?_⟩⟩
  obtain ⟨s₀, hf, hg0, s, hT, hz, hgens, hg, G, y⟩ := (left.behind hX hch w).2 s' hs'
  refine ⟨s₀, hf, hg0, s, hT, fun n hn => ?_, (fun _ hx => nomatch hx), (fun _ hx => nomatch hx), fun args hpre hlay ord hord => ?_⟩
  · obtain rfl : n = l.name := List.mem_singleton.mp hn
    exact pinned_of_view hg G hdef hp hk
  have hgens : s.gens = #[] := Array.eq_empty_of_size_eq_zero (beq_iff_eq.mp hgens)
  obtain ⟨⟨vs, s₁⟩, hlaid⟩ := Option.isSome_iff_exists.mp (layAllW_isSome (P := w.params) (ord := ord) G.has args l.row.args s (pre_splitW (r := l.row.toRowW) hpre).1)
  have keeps := layAllW_keeps _ _ _ hlaid
  have hal := layAllW_rest _ _ _ hlaid
  obtain ⟨as, hrd, hin, hold⟩ := reads_layAllW hord _ _ _ hlaid hlay s₁.heap (fun _ _ e => e)
  have L : Laid [] w s s₁ args vs as := ⟨⟨ord, hord, hlaid⟩, hrd, hin, hold, keeps, hal.1.trans hgens, hal.2.2.1⟩
  have G₁ := G.keeps hXk keeps
  obtain ⟨a, o, pm, cd, doc, dV, kV, h1, _⟩ := G₁.fn hdef
  have hc := call w s s₁ _ _ (.ref a) G₁ (hYk _ _ _ (hY w s y) keeps) h1 args vs as hpre hlay hrd L.well (L.low G.low)
  have hi := ident_freeW hu ha hap
  have hwi : l.row.claim.within = [] := rfl
  obtain ⟨k, r, s2, s3, hrun, hsched, hfo, hR⟩ := thread_ends_P (prog := l.prog) (w := w) (s := s₁) (t := do match ← nsGet mainNs l.name with
      | some f => do ret (← PySem.call f vs)
      | none => unsupported "claim.caller:no-such-global")
    (R := fun r s' => r = .ok (.ret (.bool true)) ∧ ∃ h' tk, (∀ b o, s₁.heap.get? b = some o → h'.get? b = some o) ∧ s' = { s₁ with heap := h', toks := tk }) (Shared.asleep_of_life hal.2.2.2 hz)
    (.bindA (wpAny_nsGet G₁.T.g (by
      rw [h1]
      refine .bind (hc.mono (fun v s' h' => .ret ?_) fun _ _ h' => h')
      obtain ⟨rfl, h2, tk, e1, rfl⟩ := h'
      refine ⟨_, rfl, ⟨rfl, h2, tk, e1, rfl⟩, ?_⟩
      exact leftWithCleanup_false_of_bare (AllBare.of_eq (show s₁.gens = #[] from hal.1.trans hgens)))))
  obtain ⟨rfl, h2, tk, e1, rfl⟩ := hR
  have hpost : l.row.claim.post args (.bool true) args = true := postW_of (r := l.row.toRowW) (by show WShape.has [] (.bool true) .bool = true; decide) (w_eq_bool (w_res rfl) w_lit) rfl
  have g : GoodWG l.row.claim (classAt s.heap) (ExcName.means s.heap) args s₁ (.ok (.ret (.bool true))) { s₁ with heap := h2, toks := tk } :=
    ⟨.inl ⟨_, .bool true, [], rfl, fun _ => rfl, .bool true, hpost, fun _ => ⟨List.nodup_nil, fun _ h => nomatch h⟩⟩, .of_keep e1, rfl, .of_eq (hal.1.trans hgens)⟩
  have z := g.laid (c := l.row.claim) hsame hwi hi L
  obtain ⟨eh, _, _, eo, _⟩ := Shared.forget_eq hfo
  have hlife : s2.heap.life = s.heap.life := (runN_life _ _ _ hrun).trans hal.2.2.2
  refine ⟨vs, s₁, hlaid, k, _, s2, hsched, ?_, (fun _ i x hx => by rw [hgens] at hx; simp at hx), fun q => absurd (q.symm.trans hwf) (by decide), by rw [hlife], Shared.rest_eq (eo.trans z.2.1)⟩
  rcases z.1.congr eh with ⟨v, hv, d1, d2, d3, d4, d5⟩ | ⟨e, ob, cls, hv, d1, d2, d3, d4, d5⟩
  · cases hv
    exact .inl ⟨_, rfl, d1, d2, d3, fun b o y _ => d4 b o y, d5⟩
  · cases hv
end Mine
namespace Mine
local macro_rules | `(tactic| walk_at "eval ListComp") => `(tactic| (k_here; k_dflt (refine comp_eval (by k_asm) (by k_asm) (by with_unfolding_all rfl) (by decide) (by rfl) (by decide) ?_)))
local macro_rules | `(tactic| walk_at "call type:enumerate") => `(tactic| refine Halt.mk ?_)
local macro_rules | `(tactic| walk_at "pyIter ref") => `(tactic| ((with_reducible show wpAny _ _ (pyIter _) (CompIt _ _ _ _ _ _ _ _ _ _ _ _ _) _ _); refine Halt.mk ?_))
local macro_rules | `(tactic| walk_at "eval Name") => `(tactic| (k_here; (with_reducible show wpAny _ _ (eval (Expr.Name _ _) (compEnvC _ _ _ _)) _ _ _); k_dflt (first
  | (refine' nmL ?F ?v ?_ ?a ?b; (case a => rfl); (case b => rfl); (case F => k_asm); (case v => k_asm); k_whole)
  | (refine' nmG ?F ?X ?T ?e ?_ ?g ?a ?b; (case g => rfl); (case a => rfl); (case b => rfl); (case F => k_asm); (case X => k_asm); (case T => k_asm); (case e => k_is); k_whole)
  | (refine' nmB ?F ?X ?T ?e ?v ?n ?_ ?g ?g2 ?a ?b; (case g => rfl); (case g2 => rfl); (case a => rfl); (case b => rfl); (case F => k_asm); (case X => k_asm); (case T => k_asm); (case e => k_is); (case v => boot_fast); (case n => decide); k_whole)
  | (refine' nmC ?F ?c ?o ?d ?_ ?a ?b; (case a => rfl); (case b => rfl); (case F => k_asm); (case c => rfl); (case o => k_asm); (case d => k_asm); k_whole))))
local macro_rules | `(tactic| walk_at "call ref") => `(tactic| refine Halt.mk ?_)
local macro_rules | `(tactic| walk_at "exec Assign cons ListComp") => `(tactic| (k_here; k_dflt (refine comp_assign (by k_asm) (by k_asm) (by rfl) (by with_unfolding_all rfl) (by with_unfolding_all rfl) (by decide) (by rfl) (by decide) (by rfl) (by rfl) ?_)))
section
-- part N1
set_option maxHeartbeats 4000000 in
theorem number_of_spec {w : World} {fr : Option (List Env)} {s : Shared} {Q E : Value → Shared → Prop} {b : Array UInt8} {tb : Tok} {ks : List Int}
    (G : Gd w s.heap) (hk : KBw.bInts b = ks) (hb : ks.length ≤ 7)
    (ret : ∀ v t h' tk, v = lev ks → Ext s.heap h' → Q (.int v t) { s with heap := h', toks := tk }) :
    wpAny (model PySem.Challenge.rw_pb0583_01.row.prog w) (LvA 600 fr) (call (.ref 63) [.bytes b tb]) Q E s := by
  obtain ⟨X, p, loose, mean, mg, mb, T⟩ := G
  revert X; k_fill; intro X
  refine wpAny_call ?_
  refine' enterP (binds := [("octets", .bytes b tb)]) ?k1 ?k2 ?k3 ?k4 ?k5 ?k6 ?k7 ?_ ?c2 ?c3 ?c4 ?c5
  (k_dflt ((case k1 => k_asm); (case k2 => k_asm); (case k3 => k_is); (case k4 => k_is); (case k5 => exact Nat.le_of_ble_eq_true rfl); (case k6 => first | exact BindsTo.of_eq rfl | exact binds_K (by k_in) rfl (by k_is) rfl rfl rfl); (case k7 => exact locs rfl); (case c2 => exact rfl); (case c3 => exact rfl); (case c4 => exact rfl); (case c5 => decide)))
  intro L' h' F' N'
  k_steps
  have hbs : b.size ≤ 7 := by rw [← KBw.ints_length, hk]; exact hb
  refine Halt.go (enumBytes_call (R := fun i _ y => ∃ t, y = .int ((KBw.bInts b).getD i 0 * 256 ^ i) t) (by rfl) (by rfl) (by rfl) (by decide) (by rfl) (by assumption) (by assumption) (by rw [sizeLine_eq]; omega) ?el ?fin)
  case el =>
    intro i c t u C m' s' hc h0 h1 F2 e2 E2
    obtain ⟨h2, tk2, rfl⟩ := e2
    obtain ⟨nw, N2, cv⟩ := cover_ex F2
    have k2 := F2.keep
    rename Fr s.heap _ _ _ => F1
    have X2 := X.keeps F1.keep
    have T2 := T.keeps F1.keep
    have hi : i < b.size := by
      rcases Nat.lt_or_ge i b.size with h | h
      · exact h
      · rw [Array.getElem?_eq_none h] at hc; cases hc
    have hi7 : (i : Int) < 7 := by omega
    have hi0 : 0 ≤ (i : Int) := by omega
    have hc0 : 0 ≤ (c.toNat : Int) := by omega
    have hc1 : (c.toNat : Int) < 256 := by have := c.toNat_lt; omega
    k_steps
    exact ElPost.int (s' := ⟨h2, _, _, _, _⟩) cv k2 F2 N2 (fun _ e => e) (by rw [two8, getD_ints hc])
  case fin =>
    rintro s₂ ⟨h2, tk2, rfl⟩
    intro D h3 tk3 ys k3 F3 N3 hD hl hR
    have hi := ints_of hl hR
    k_steps
    rename Fr s.heap _ _ _ => F4
    exact ret _ _ _ _ (by rw [← KBw.ints_length, lev_sum, hk]) F4.keep
set_option maxHeartbeats 4000000 in
theorem octets_of_spec {w : World} {fr : Option (List Env)} {s : Shared} {Q E : Value → Shared → Prop} {x : Int} {n : Nat} {tx tn : Tok}
    (G : Gd w s.heap) (hn : n ≤ 8) (h0 : 0 ≤ x) (h1 : x < 256 ^ n)
    (ret : ∀ b t h' tk, KBw.bInts b = dig x n → Ext s.heap h' → Q (.bytes b t) { s with heap := h', toks := tk }) :
    wpAny (model PySem.Challenge.rw_pb0583_01.row.prog w) (LvA 600 fr) (call (.ref 68) [.int x tx, .int n tn]) Q E s := by
  obtain ⟨X, p, loose, mean, mg, mb, T⟩ := G
  revert X; k_fill; intro X
  refine wpAny_call ?_
  refine' enterPC (binds := [("number", .int x tx), ("size", .int n tn)]) (mL := fun y => if y = "size" then some (.int n tn) else none) (mC := fun y => if y = "number" then some (.int x tx) else none) ?k1 ?k2 ?k3 ?k4 ?k5 ?k6 ?k7 ?k8 ?m1 ?m2 ?_ ?c2 ?c3 ?c4
  (k_dflt ((case k1 => k_asm); (case k2 => k_asm); (case k3 => k_is); (case k4 => k_is); (case k5 => exact Nat.le_of_ble_eq_true rfl); (case k6 => first | exact BindsTo.of_eq rfl | exact binds_K (by k_in) rfl (by k_is) rfl rfl rfl); (case k7 => exact rfl); (case k8 => decide +kernel); (case m1 => rfl); (case m2 => rfl); (case c2 => exact rfl); (case c3 => exact rfl); (case c4 => exact rfl)))
  have hp : x < 256 ^ (n : Int).toNat := by rw [Int.toNat_natCast]; exact h1
  intro L' h' tk' cells' F' N' Y'
  k_cells Y'
  rename Obj => o1
  have dC : o1.data = Data.cell (some (.int x tx)) := by assumption
  k_steps
  rename IsRange _ _ _ _ _ _ _ _ => hr
  rename Fr s.heap _ _ _ => F1
  rename News s.heap _ _ _ => N1
  refine Halt.go (range_iter (R := fun i _ y => ∃ t, y = .int (x / 256 ^ i % 256) t) (n := n) (by rfl) (by rfl) (by rfl) F1 N1 hr (small_one (by omega) (by omega) (by omega) (by omega)) (rangeSize1 n) (by rw [sizeLine_eq]; omega) ?el ?fin)
  case el =>
    intro i t C m' s' hk h0 F2 e2 E2
    obtain ⟨h2, tk2, rfl⟩ := e2
    obtain ⟨nw, N2, cv⟩ := cover_ex F2
    have k2 := F2.keep
    have X2 := X.keeps F1.keep
    have T2 := T.keeps F1.keep
    have hc := (N1 (L' + 1, o1) (by simp)).1
    have hi7 : (i : Int) < 8 := by omega
    have hi0 : 0 ≤ (i : Int) := by omega
    k_steps
    exact ElPost.int (s' := ⟨h2, _, _, _, _⟩) cv k2 F2 N2 (fun _ e => e) (dig_elt x i)
  case fin =>
    rintro s₂ ⟨h2, tk2, rfl⟩
    intro D h3 tk3 ys k3 F3 N3 hD hl hR
    have hi : IntsAre ys (dig x n) := ints_of hl hR
    have hin := dig_in (x := x) (n := n)
    have hln : (dig x n).length ≤ 16777216 := by rw [dig_length]; omega
    k_steps
    rename Fr s.heap _ _ _ => F4
    exact ret _ _ _ _ (KBa.ints_make hin) F4.keep
end
section
-- part N2
set_option maxHeartbeats 4000000 in
theorem law_digits_spec {w : World} {fr : Option (List Env)} {s : Shared} {Q E : Value → Shared → Prop} {x : Int} {n : Nat} {tx tn : Tok}
    (G : Gd w s.heap) (hn : n ≤ 8) (h0 : 0 ≤ x) (h1 : x < 2 ^ 40)
    (ret : ∀ D ys h' tk, IntsAre ys (dig x n) → s.heap.get? D = none → h'.get? D = some (lst ys) → Ext s.heap h' → Q (.ref D) { s with heap := h', toks := tk }) :
    wpAny (model PySem.Challenge.rw_pb0583_01.row.prog w) (LvA 600 fr) (call (.ref 306) [.int x tx, .int n tn]) Q E s := by
  obtain ⟨X, p, loose, mean, mg, mb, T⟩ := G
  revert X; k_fill; intro X
  refine wpAny_call ?_
  refine' enterPC (binds := [("number", .int x tx), ("size", .int n tn)]) (mL := fun y => if y = "size" then some (.int n tn) else none) (mC := fun y => if y = "number" then some (.int x tx) else none) ?k1 ?k2 ?k3 ?k4 ?k5 ?k6 ?k7 ?k8 ?m1 ?m2 ?_ ?c2 ?c3 ?c4
  (k_dflt ((case k1 => k_asm); (case k2 => k_asm); (case k3 => k_is); (case k4 => k_is); (case k5 => exact Nat.le_of_ble_eq_true rfl); (case k6 => first | exact BindsTo.of_eq rfl | exact binds_K (by k_in) rfl (by k_is) rfl rfl rfl); (case k7 => exact rfl); (case k8 => decide +kernel); (case m1 => rfl); (case m2 => rfl); (case c2 => exact rfl); (case c3 => exact rfl); (case c4 => exact rfl)))
  intro L' h' tk' cells' F' N' Y'
  k_cells Y'
  rename Obj => o1
  have dC : o1.data = Data.cell (some (.int x tx)) := by assumption
  k_steps
  rename IsRange _ _ _ _ _ _ _ _ => hr
  rename Fr s.heap _ _ _ => F1
  rename News s.heap _ _ _ => N1
  refine Halt.go (range_iter (R := fun i _ y => ∃ t, y = .int (x / 256 ^ i % 256) t) (n := n) (by rfl) (by rfl) (by rfl) F1 N1 hr (small_one (by omega) (by omega) (by omega) (by omega)) (rangeSize1 n) (by rw [sizeLine_eq]; omega) ?el ?fin)
  case el =>
    intro i t C m' s' hk h0 F2 e2 E2
    obtain ⟨h2, tk2, rfl⟩ := e2
    obtain ⟨nw, N2, cv⟩ := cover_ex F2
    have k2 := F2.keep
    have X2 := X.keeps F1.keep
    have T2 := T.keeps F1.keep
    have hc := (N1 (L' + 1, o1) (by simp)).1
    have hi7 : (i : Int) < 8 := by omega
    have hi0 : 0 ≤ (i : Int) := by omega
    k_steps
    refine floordiv_int (by rw [toNat01]; exact ne256 i) ?_ (Or.inl (by rw [toNat01]; exact noPy256 (by omega)))
    k_steps
    exact ElPost.int (s' := ⟨h2, _, _, _, _⟩) cv k2 F2 N2 (fun _ e => e) (dig_elt2 x i)
  case fin =>
    rintro s₂ ⟨h2, tk2, rfl⟩
    intro D h3 tk3 ys k3 F3 N3 hD hl hR
    have hi : IntsAre ys (dig x n) := ints_of hl hR
    have hD0 : s.heap.get? D = none := (N3 (D, lst ys) (by simp)).2.2
    exact ret D ys h3 _ hi hD0 (N3 (D, lst ys) (by simp)).1 F3.keep
end
section
-- part N3
set_option maxHeartbeats 4000000 in
theorem law_value_spec {w : World} {fr : Option (List Env)} {s : Shared} {Q E : Value → Shared → Prop} {l : Addr} {vs : List Value} {ks : List Int}
    (G : Gd w s.heap) (hl : s.heap.IsList l vs.toArray) (hi : IntsAre vs ks) (hk : ∀ k ∈ ks, 0 ≤ k ∧ k < 256) (hn : ks.length ≤ 7)
    (ret : ∀ v t h' tk, v = lev ks → Ext s.heap h' → Q (.int v t) { s with heap := h', toks := tk }) :
    wpAny (model PySem.Challenge.rw_pb0583_01.row.prog w) (LvA 600 fr) (call (.ref 311) [.ref l]) Q E s := by
  obtain ⟨X, p, loose, mean, mg, mb, T⟩ := G
  revert X; k_fill; intro X
  refine wpAny_call ?_
  refine' enterP (binds := [("octets", .ref l)]) ?k1 ?k2 ?k3 ?k4 ?k5 ?k6 ?k7 ?_ ?c2 ?c3 ?c4 ?c5
  (k_dflt ((case k1 => k_asm); (case k2 => k_asm); (case k3 => k_is); (case k4 => k_is); (case k5 => exact Nat.le_of_ble_eq_true rfl); (case k6 => first | exact BindsTo.of_eq rfl | exact binds_K (by k_in) rfl (by k_is) rfl rfl rfl); (case k7 => exact locs rfl); (case c2 => exact rfl); (case c3 => exact rfl); (case c4 => exact rfl); (case c5 => decide)))
  intro L' h' F' N'
  have hvl : vs.length = ks.length := hi.length
  k_steps
  rename Fr s.heap _ _ _ => F1
  rename News s.heap _ _ _ => N1
  refine Halt.go (enumList_call (R := fun i _ y => ∃ t, y = .int (ks.getD i 0 * 256 ^ i) t) (by rfl) (by rfl) (by rfl) (by decide) (by rfl) F1 N1 (hl.at fun o e => F1.keep _ _ e) (by rw [sizeLine_eq, List.size_toArray]; omega) ?el ?fin)
  case el =>
    intro i v t C m' s' hv h0 h1 F2 e2 E2
    obtain ⟨h2, tk2, rfl⟩ := e2
    obtain ⟨nw, N2, cv⟩ := cover_ex F2
    have k2 := F2.keep
    have X2 := X.keeps F1.keep
    have T2 := T.keeps F1.keep
    obtain ⟨k, t2, hk2, rfl⟩ : ∃ k t2, ks[i]? = some k ∧ v = .int k t2 := by
      obtain ⟨k, t2, e1, e2⟩ := IntsAre.at hi i v (by simpa using hv)
      first | exact ⟨k, t2, e2, e1⟩ | exact ⟨k, t2, e1, e2⟩
    have hkr := hk k (List.mem_of_getElem? hk2)
    have hk0 := hkr.1
    have hk1 := hkr.2
    have hil : i < ks.length := (List.getElem?_eq_some_iff.mp hk2).1
    have hi7 : (i : Int) < 7 := by omega
    have hi0 : 0 ≤ (i : Int) := by omega
    k_steps
    exact ElPost.int (s' := ⟨h2, _, _, _, _⟩) cv k2 F2 N2 (fun _ e => e) (by rw [Int.toNat_natCast, getD_some hk2])
  case fin =>
    rintro s₂ ⟨h2, tk2, rfl⟩
    intro D h3 tk3 ys k3 F3 N3 hD hl3 hR
    have hi := ints_of hl3 hR
    k_steps
    rename Fr s.heap _ _ _ => F4
    exact ret _ _ _ _ (by rw [List.size_toArray, hvl, lev_sum]) F4.keep
theorem rangeSize4 (n : Nat) : Builtin.Range.rangeSize 0 (n : Int) 4 = (((n + 3) / 4 : Nat) : Int) := by
  unfold Builtin.Range.rangeSize
  rw [if_pos (by decide)]
  split <;> omega
theorem small4 {n : Nat} (h : n ≤ 1000) : Builtin.Range.small 0 (n : Int) 4 = true := by
  unfold Builtin.Range.small
  rw [rangeSize4]
  generalize hq : (n + 3) / 4 = q
  have hq2 : q ≤ 1000 := by omega
  have e2 : ∀ k : Int, 0 ≤ k → k ≤ 100000 → Builtin.Range.rangeFitsLong k = true := fun k h1 h2 => by
    unfold Builtin.Range.rangeFitsLong
    rw [Bool.and_eq_true, decide_eq_true_eq, decide_eq_true_eq]; omega
  rw [e2 0 (by omega) (by omega), e2 n (by omega) (by omega), e2 4 (by omega) (by omega), e2 q (by omega) (by omega), if_pos (by decide), e2 _ (by omega) (by omega)]
  simp
set_option maxHeartbeats 4000000 in
theorem words_of_spec {w : World} {fr : Option (List Env)} {s : Shared} {Q E : Value → Shared → Prop} {b : Array UInt8} {tb : Tok} {ks : List Int}
    (G : Gd w s.heap) (hk : KBw.bInts b = ks) (hb : ks.length ≤ 1000)
    (ret : ∀ D ys h' tk, IntsAre ys (words ((ks.length + 3) / 4) ks) → s.heap.get? D = none → h'.get? D = some (lst ys) → Ext s.heap h' → Q (.ref D) { s with heap := h', toks := tk }) :
    wpAny (model PySem.Challenge.rw_pb0583_01.row.prog w) (LvA 550 fr) (call (.ref 190) [.bytes b tb]) Q E s := by
  obtain ⟨X, p, loose, mean, mg, mb, T⟩ := G
  revert X; k_fill; intro X
  refine wpAny_call ?_
  refine' enterPC (binds := [("octets", .bytes b tb)]) (mL := fun y => none) (mC := fun y => if y = "octets" then some (.bytes b tb) else none) ?k1 ?k2 ?k3 ?k4 ?k5 ?k6 ?k7 ?k8 ?m1 ?m2 ?_ ?c2 ?c3 ?c4
  (k_dflt ((case k1 => k_asm); (case k2 => k_asm); (case k3 => k_is); (case k4 => k_is); (case k5 => exact Nat.le_of_ble_eq_true rfl); (case k6 => first | exact BindsTo.of_eq rfl | exact binds_K (by k_in) rfl (by k_is) rfl rfl rfl); (case k7 => exact rfl); (case k8 => decide +kernel); (case m1 => rfl); (case m2 => rfl); (case c2 => exact rfl); (case c3 => exact rfl); (case c4 => exact rfl)))
  intro L' h' tk' cells' F' N' Y'
  k_cells Y'
  rename Obj => o1
  have dC : o1.data = Data.cell (some (.bytes b tb)) := by assumption
  k_steps
  rename IsRange _ _ _ _ _ _ _ _ => hr
  rename Fr s.heap _ _ _ => F1
  rename News s.heap _ _ _ => N1
  refine Halt.go (range_iter (R := fun i _ y => ∃ t, y = .int (lev ((ks.drop (4 * i)).take 4)) t) (n := (ks.length + 3) / 4) (by rfl) (by rfl) (by rfl) F1 N1 hr (small4 hb) (rangeSize4 ks.length) (by rw [sizeLine_eq]; omega) ?el ?fin)
  case el =>
    intro i t C m' s' hi h0 F2 e2 E2
    obtain ⟨h2, tk2, rfl⟩ := e2
    obtain ⟨nw, N2, cv⟩ := cover_ex F2
    have k2 := F2.keep
    have X2 := X.keeps F1.keep
    have T2 := T.keeps F1.keep
    have hc := (N1 (L' + 1, o1) (by simp)).1
    have hi7 : (i : Int) < 300 := by omega
    have hi0 : 0 ≤ (i : Int) := by omega
    k_steps
    rename KBw.bInts (KBy.picked _ _ _) = _ => hpk
    rename Fr _ C _ _ => F3
    rename News _ C _ _ => N3
    rw [slice4] at hpk
    refine Halt.go (atLv (d := 600) (number_of_spec ⟨X2.keeps F3.keep, p, loose, mean, mg, mb, T2.keeps F3.keep⟩ hpk (Nat.le_trans (take4_le ks i) (by decide)) fun v t4 h4 tk4 hv k4 => ?_))
    exact ElPost.int (s' := ⟨h2, _, _, _, _⟩) cv k2 (F3.keeps k4) (N3.grown k4) (fun _ e => e) hv
  case fin =>
    rintro s₂ ⟨h2, tk2, rfl⟩
    intro D h3 tk3 ys k3 F3 N3 hD hl hR
    have hi : IntsAre ys (words ((ks.length + 3) / 4) ks) := by rw [words_get]; exact ints_of hl hR
    have hD0 : s.heap.get? D = none := (N3 (D, lst ys) (by simp)).2.2
    exact ret D ys h3 _ hi hD0 (N3 (D, lst ys) (by simp)).1 F3.keep
end
section
-- part N4
set_option maxHeartbeats 4000000 in
theorem fletcher4_spec {w : World} {fr : Option (List Env)} {s : Shared} {Q E : Value → Shared → Prop} {b : Array UInt8} {tb : Tok} {ks : List Int}
    (G : Gd w s.heap) (hk : KBw.bInts b = ks) (hb : ks.length ≤ 100)
    (ret : ∀ D a t1 b t2 c t3 d t4 h' tk, a = (words ((ks.length + 3) / 4) ks).sum % M32 → b = flS id (words ((ks.length + 3) / 4) ks) % M32 → c = flS f2 (words ((ks.length + 3) / 4) ks) % M32 → d = flS f3 (words ((ks.length + 3) / 4) ks) % M32 →
      s.heap.get? D = none → h'.get? D = some (tup4 a t1 b t2 c t3 d t4) → Ext s.heap h' → Q (.ref D) { s with heap := h', toks := tk }) :
    wpAny (model PySem.Challenge.rw_pb0583_01.row.prog w) (LvA 500 fr) (call (.ref 202) [.bytes b tb]) Q E s := by
  obtain ⟨X, p, loose, mean, mg, mb, T⟩ := G
  revert X; k_fill; intro X
  refine wpAny_call ?_
  refine' enterPC (binds := [("octets", .bytes b tb)]) (mL := fun y => if y = "octets" then some (.bytes b tb) else none) (mC := fun y => none) ?k1 ?k2 ?k3 ?k4 ?k5 ?k6 ?k7 ?k8 ?m1 ?m2 ?_ ?c2 ?c3 ?c4
  (k_dflt ((case k1 => k_asm); (case k2 => k_asm); (case k3 => k_is); (case k4 => k_is); (case k5 => exact Nat.le_of_ble_eq_true rfl); (case k6 => first | exact BindsTo.of_eq rfl | exact binds_K (by k_in) rfl (by k_is) rfl rfl rfl); (case k7 => exact rfl); (case k8 => decide +kernel); (case m1 => rfl); (case m2 => rfl); (case c2 => exact rfl); (case c3 => exact rfl); (case c4 => exact rfl)))
  intro L' h' tk' cells' F' N' Y'
  k_cells Y'
  rename Obj => o1
  have dC : o1.data = Data.cell none := by assumption
  k_steps
  rename Fr s.heap _ _ _ => F1
  rename News s.heap _ _ _ => N1
  refine Halt.go (atLv (d := 550) (words_of_spec ⟨X.keeps F1.keep, p, loose, mean, mg, mb, T.keeps F1.keep⟩ hk (by omega) fun D ys h4 tk4 hi hD hD4 k4 => ?_))
  have F4 := F1.keeps k4
  have N4 := news_add F1 N1 k4 hD hD4
  have e4 := news_ne N1 hD
  simp only [List.forall_mem_cons, List.forall_mem_nil, and_true] at e4
  clear F1 N1
  k_steps
  rename_i h5 o5 F5 N5 d5
  have hw := words_length ((ks.length + 3) / 4) ks
  have hwr := words_oct ((ks.length + 3) / 4) (ks := ks) (hk ▸ fun k hk => KBw.ints_in hk)
  generalize words ((ks.length + 3) / 4) ks = ws at hi hw hwr ret
  have hyl : ys.length = ws.length := hi.length
  refine Halt.go (enumList_call (R := fun i h y => ∃ T t u, y = .ref T ∧ h5.get? T = none ∧ h.get? T = some (tup2 ((ws.length : Int) - (i : Int)) t (ws.getD i 0) u)) (by rfl) (by rfl) (by rfl) (by decide) (by rfl) F5 N5 (items := ys.toArray) ⟨_, (N5 (D, lst ys) (by simp)).1, rfl, _, rfl⟩ (by rw [sizeLine_eq, List.size_toArray]; omega) ?el ?fin)
  case el =>
    intro i v t C m' s' hv h0 h1 F2 e2 E2
    obtain ⟨h2, tk2, rfl⟩ := e2
    obtain ⟨nw, N2, cv⟩ := cover_ex F2
    have k2 := F2.keep
    have X2 := X.keeps F5.keep
    have T2 := T.keeps F5.keep
    obtain ⟨k, t2, hk2, rfl⟩ : ∃ k t2, ws[i]? = some k ∧ v = .int k t2 := by
      obtain ⟨k, t2, e1, e2⟩ := IntsAre.at hi i v (by simpa using hv)
      first | exact ⟨k, t2, e2, e1⟩ | exact ⟨k, t2, e1, e2⟩
    have hc := (N5 (L' + 1, o5) (by simp)).1
    have hlD : h5.IsList D ys.toArray := ⟨_, (N5 (D, lst ys) (by simp)).1, rfl, _, rfl⟩
    k_steps
    rename_i D7 h7 F7 N7 l7
    rw [getD_some hk2]
    exact ElPost.tup (s' := ⟨h2, _, _, _, _⟩) cv k2 F7 N7 l7
  case fin =>
    rintro s₂ ⟨h2, tk2, rfl⟩
    intro D2 h6 tk6 ys2 k6 F6 N6 hD2 hl2 hR
    dsimp only
    obtain ⟨tl, Ts, tt, uu, Nt, hTs⟩ := pairs_ledger F5 hR
    have N6' := News.app N6 Nt
    simp only [List.cons_append, List.nil_append] at N6'
    clear N6
    have hyz : ys2.length = ws.length := by rw [hl2, List.size_toArray, hyl]
    k_steps
    rename Fr s.heap _ _ _ => F8
    rename News s.heap _ _ _ => N8
    refine Halt.go (pairs_iter (R := fun i _ y => ∃ t, y = .int ((((ws.length : Int) - (i : Int))) * ws.getD i 0) t) (by rfl) (by rfl) (by rfl) (by decide) (by rfl) F8 N8 (items := ys2.toArray) ⟨_, (N8 (D2, lst ys2) (by repeat (first | exact List.mem_cons_self | refine List.mem_cons_of_mem _ ?_))).1, rfl, _, rfl⟩ (by rw [sizeLine_eq, List.size_toArray]; omega)
      (Ts := Ts) (v0 := fun j => .int ((ws.length : Int) - (j : Int)) (tt j)) (v1 := fun j => .int (ws.getD j 0) (uu j)) (fun j hj => ⟨by simpa using (hTs j (by simpa using hj)).1, tup2 _ _ _ _, (N8 (_, _) (by repeat (first | exact (hTs j (by simpa using hj)).2 | refine List.mem_cons_of_mem _ ?_))).1, rfl, _, rfl⟩) ?el1 ?fin1)
    case el1 =>
      intro i C m' s' hi' h0 h1 F2 e2 E2
      obtain ⟨h2, tk2, rfl⟩ := e2
      obtain ⟨nw, N2, cv⟩ := cover_ex F2
      have k2 := F2.keep
      have hi2 : i < ws.length := by rw [List.size_toArray, hyz] at hi'; exact hi'
      have hb0 := (hwr _ (getD_mem hi2)).1
      have hb1 := (hwr _ (getD_mem hi2)).2
      obtain ⟨a, ha⟩ : ∃ a : Int, a = (ws.length : Int) - (i : Int) := ⟨_, rfl⟩
      have ha0 : 0 ≤ a := by omega
      have ha1 : a ≤ 100 := by omega
      rw [← ha] at h0 ⊢
      generalize ws.getD i 0 = x at hb0 hb1 h1 ⊢
      k_steps
      exact ElPost.int (s' := ⟨h2, _, _, _, _⟩) cv k2 F2 N2 (fun _ e => e) rfl
    case fin1 =>
      rintro s₂ ⟨h2, tk2, rfl⟩
      intro D3 h7 tk7 ys3 k7 F7 N7 hD7 hl7 hR7
      have hi7 := ints_of hl7 hR7
      generalize hL1 : List.map _ (List.range ys2.toArray.size) = l1 at hi7
      k_steps
      rename Fr s.heap _ _ _ => F8
      rename News s.heap _ _ _ => N8
      refine Halt.go (pairs_iter (R := fun i _ y => ∃ t, y = .int (((((ws.length : Int) - (i : Int)) * (((ws.length : Int) - (i : Int)) + 1)).fdiv 2) * ws.getD i 0) t) (by rfl) (by rfl) (by rfl) (by decide) (by rfl) F8 N8 (items := ys2.toArray) ⟨_, (N8 (D2, lst ys2) (by repeat (first | exact List.mem_cons_self | refine List.mem_cons_of_mem _ ?_))).1, rfl, _, rfl⟩ (by rw [sizeLine_eq, List.size_toArray]; omega)
        (Ts := Ts) (v0 := fun j => .int ((ws.length : Int) - (j : Int)) (tt j)) (v1 := fun j => .int (ws.getD j 0) (uu j)) (fun j hj => ⟨by simpa using (hTs j (by simpa using hj)).1, tup2 _ _ _ _, (N8 (_, _) (by repeat (first | exact (hTs j (by simpa using hj)).2 | refine List.mem_cons_of_mem _ ?_))).1, rfl, _, rfl⟩) ?el2 ?fin2)
      case el2 =>
        intro i C m' s' hi' h0 h1 F2 e2 E2
        obtain ⟨h2, tk2, rfl⟩ := e2
        obtain ⟨nw, N2, cv⟩ := cover_ex F2
        have k2 := F2.keep
        have hi2 : i < ws.length := by rw [List.size_toArray, hyz] at hi'; exact hi'
        have hb0 := (hwr _ (getD_mem hi2)).1
        have hb1 := (hwr _ (getD_mem hi2)).2
        obtain ⟨a, ha⟩ : ∃ a : Int, a = (ws.length : Int) - (i : Int) := ⟨_, rfl⟩
        have ha0 : 0 ≤ a := by omega
        have ha1 : a ≤ 100 := by omega
        rw [← ha] at h0 ⊢
        generalize ws.getD i 0 = x at hb0 hb1 h1 ⊢
        k_steps
        exact ElPost.int (s' := ⟨h2, _, _, _, _⟩) cv k2 F2 N2 (fun _ e => e) rfl
      case fin2 =>
        rintro s₂ ⟨h2, tk2, rfl⟩
        intro D4 h7 tk7 ys3 k7 F7 N7 hD7 hl7 hR7
        have hi7 := ints_of hl7 hR7
        generalize hL2 : List.map _ (List.range ys2.toArray.size) = l2 at hi7
        k_steps
        rename Fr s.heap _ _ _ => F8
        rename News s.heap _ _ _ => N8
        refine Halt.go (pairs_iter (R := fun i _ y => ∃ t, y = .int (((((ws.length : Int) - (i : Int)) * (((ws.length : Int) - (i : Int)) + 1) * (((ws.length : Int) - (i : Int)) + 2)).fdiv 6) * ws.getD i 0) t) (by rfl) (by rfl) (by rfl) (by decide) (by rfl) F8 N8 (items := ys2.toArray) ⟨_, (N8 (D2, lst ys2) (by repeat (first | exact List.mem_cons_self | refine List.mem_cons_of_mem _ ?_))).1, rfl, _, rfl⟩ (by rw [sizeLine_eq, List.size_toArray]; omega)
          (Ts := Ts) (v0 := fun j => .int ((ws.length : Int) - (j : Int)) (tt j)) (v1 := fun j => .int (ws.getD j 0) (uu j)) (fun j hj => ⟨by simpa using (hTs j (by simpa using hj)).1, tup2 _ _ _ _, (N8 (_, _) (by repeat (first | exact (hTs j (by simpa using hj)).2 | refine List.mem_cons_of_mem _ ?_))).1, rfl, _, rfl⟩) ?el3 ?fin3)
        case el3 =>
          intro i C m' s' hi' h0 h1 F2 e2 E2
          obtain ⟨h2, tk2, rfl⟩ := e2
          obtain ⟨nw, N2, cv⟩ := cover_ex F2
          have k2 := F2.keep
          have hi2 : i < ws.length := by rw [List.size_toArray, hyz] at hi'; exact hi'
          have hb0 := (hwr _ (getD_mem hi2)).1
          have hb1 := (hwr _ (getD_mem hi2)).2
          obtain ⟨a, ha⟩ : ∃ a : Int, a = (ws.length : Int) - (i : Int) := ⟨_, rfl⟩
          have ha0 : 0 ≤ a := by omega
          have ha1 : a ≤ 100 := by omega
          rw [← ha] at h0 ⊢
          generalize ws.getD i 0 = x at hb0 hb1 h1 ⊢
          k_steps
          exact ElPost.int (s' := ⟨h2, _, _, _, _⟩) cv k2 F2 N2 (fun _ e => e) rfl
        case fin3 =>
          rintro s₂ ⟨h2, tk2, rfl⟩
          intro D5 h7 tk7 ys3 k7 F7 N7 hD7 hl7 hR7
          have hi7 := ints_of hl7 hR7
          generalize hL3 : List.map _ (List.range ys2.toArray.size) = l3 at hi7
          k_steps
          rename_i D9 h9 F9 N9 l9
          have n9 := N9 _ List.mem_cons_self
          have hlen : ys2.toArray.size = ws.length := by rw [List.size_toArray, hyz]
          rw [hlen] at hL1 hL2 hL3
          exact ret D9 _ _ _ _ _ _ _ _ h9 _ (mask32 _) ((mask32 _).trans (congrArg (fun l => List.sum l % M32) hL1.symm)) ((mask32 _).trans (congrArg (fun l => List.sum l % M32) hL2.symm)) ((mask32 _).trans (congrArg (fun l => List.sum l % M32) hL3.symm)) n9.2.2 n9.1 F9.keep
end
section
-- part P7
theorem get_size (h : Heap) : h.get? h.objs.size = none := by
  cases q : h.get? h.objs.size with
  | none => rfl
  | some o => exact absurd (Heap.lt_size q) (Nat.lt_irrefl _)
theorem fr_ext {g h h' : Heap} {L : Addr} {m : Str → Option Value} (F : Fr g L h m) (k : Ext h h') : Fr g L h' m := fr_exo (as := []) F (fun b o _ e => k b o e) (fun a ha => by cases ha)
theorem fr_lt {g h : Heap} {L : Addr} {m : Str → Option Value} (F : Fr g L h m) : L < h.objs.size := by
  obtain ⟨o, _, _, ho, _⟩ := F.ns
  exact Heap.lt_size ho
/-- a sink's objects -/
noncomputable def sinkObjs (x dx ba : Addr) (hs : Int) (t : Tok) (n : Nat) (b : Array UInt8) : List (Addr × Obj) := [(x, instObj 123 dx), (dx, dictOf [⟨hs, .str "octets" t, .ref ba⟩] n), (ba, baObj b)]
set_option maxHeartbeats 4000000 in
theorem sink_init_spec {w : World} {fr : Option (List Env)} {s : Shared} {R : Result → Shared → Prop} {x dx : Addr}
    (hx : s.heap.get? x = some (instObj 123 dx)) (hdx : s.heap.get? dx = some (dictOf [] 0)) (hne : dx < x) (G : Gd w (hideAll s.heap [x, dx]))
    (ret : ∀ ba hs t nn h' tk, (∀ q ∈ sinkObjs x dx ba hs t nn #[], h'.get? q.1 = some q.2) → s.heap.get? ba = none → @LT.lt Nat _ x ba → Exo [x, dx] s.heap h' → R (.ok (.ret .none)) { s with heap := h', toks := tk }) :
    codeP (model PySem.Challenge.rw_pb0583_01.row.prog w) (LvA 560 fr) (.call (.ref 92) ⟨[.ref x], []⟩) R s := by
  obtain ⟨X, p, loose, mean, mg, mb, T⟩ := G
  revert X; k_fill; intro X
  refine' enterPM (mu := [(x, instObj 123 dx), (dx, dictOf [] 0)]) (fs := [x, dx]) (binds := [("self", .ref x)]) ?k0 rfl ?k1 ?k2 ?k3 ?k4 ?k5 ?k6 ?k7 ?_ ?c2 ?c3 ?c4 ?c5
  case k0 => exact List.forall_mem_cons.mpr ⟨hx, List.forall_mem_cons.mpr ⟨hdx, List.forall_mem_nil _⟩⟩
  (k_dflt ((case k1 => k_asm); (case k2 => k_asm); (case k3 => k_is); (case k4 => k_is); (case k5 => exact Nat.le_of_ble_eq_true rfl); (case k6 => first | exact BindsTo.of_eq rfl | exact binds_K (by k_in) rfl (by k_is) rfl rfl rfl); (case k7 => exact locs rfl); (case c2 => exact rfl); (case c3 => exact rfl); (case c4 => exact rfl); (case c5 => decide)))
  intro L' h' hL F' N' l'
  refine wpP.mono (E := fun _ _ => False) (Q := fun fl s' => fl = .next ∧ R (.ok (.ret .none)) s') ?_ (fun fl s' q => by rw [q.1]; exact q.2) (fun _ _ q => q.elim)
  refine .cons (.stAttr (.callName ?_))
  k_steps
  refine .calledWith (P := fun _ => True) rfl (fun _ _ => ⟨_, .inr (.inl rfl), Looks.of_pure rfl⟩) (.any (wpAny_pure ⟨trivial, ?_⟩))
  rename Fr _ _ _ _ => F1
  refine ba_callNew fun h2 e1 e2 => ?_
  dsimp only at e1 e2 ⊢
  generalize hba : h'.objs.size = ba at e1 ⊢
  have z : h'.get? ba = none := hba ▸ get_size h'
  have F2 := fr_ext F1 e2
  have N2 := news_add F1 N' e2 z e1
  have hx1 := ltN (l' _ List.mem_cons_self)
  have hx2 := ltN (l' _ (List.mem_cons_of_mem _ List.mem_cons_self))
  have hx4 := ltN hne
  have hx3 : @LT.lt Nat _ L' ba := by rw [← hba]; exact fr_lt F1
  clear F1 N' l' e2
  dsimp only at hx1 hx2
  k_steps
  rename Fr _ _ _ _ => F3
  rename News _ _ _ _ => N3
  refine .nil ⟨rfl, ret ba (PyData.keyHash w.params "octets") (s.toks + 1 + 1) 1 _ _ ?_ ?_ (Nat.lt_trans hx1 hx3) (exo_hide F3.keep)⟩
  · intro q hq
    simp only [sinkObjs, List.mem_cons, List.not_mem_nil, or_false] at hq
    rcases hq with rfl | rfl | rfl
    · exact (N3 _ (by simp)).1
    · exact (N3 _ (by simp)).1
    · exact (N3 _ (by simp)).1
  · cases q : s.heap.get? ba with
    | none => rfl
    | some o => exact absurd (Heap.lt_size q) (by rw [← hL]; exact Nat.not_lt.mpr (Nat.le_of_lt hx3))
end
section
-- part P8
theorem wpP.up {α : Type} {M : Model} {A A' : Around} {t : Sem α} {Q : α → Shared → Prop} {E : Value → Shared → Prop} {s : Shared}
    (h : wpP M A' t Q E s) (hh : A.handled = A'.handled) (hd : A.depth ≤ A'.depth) (hf : A.frames = A'.frames) (hg : A.guards = A'.guards) (hu : A.units ≤ A'.units) : wpP M A t Q E s :=
  fun Γ p hΓ => h Γ p ⟨hΓ.1.trans hh, Nat.le_trans hΓ.2.1 hd, fun l hl => hΓ.2.2.1 l (hf.trans hl), fun g hg' => hΓ.2.2.2.1 g (hg.trans hg'), Nat.le_trans hΓ.2.2.2.2 hu⟩
theorem codeP.up {M : Model} {A A' : Around} {c : Code} {R : Result → Shared → Prop} {s : Shared}
    (h : codeP M A' c R s) (hh : A.handled = A'.handled) (hd : A.depth ≤ A'.depth) (hf : A.frames = A'.frames) (hg : A.guards = A'.guards) (hu : A.units ≤ A'.units) : codeP M A c R s :=
  fun Γ p hc hΓ => h Γ p hc ⟨hΓ.1.trans hh, Nat.le_trans hΓ.2.1 hd, fun l hl => hΓ.2.2.1 l (hf.trans hl), fun g hg' => hΓ.2.2.2.1 g (hg.trans hg'), Nat.le_trans hΓ.2.2.2.2 hu⟩
theorem atLvP {α : Type} {M : Model} {A : Around} {d : Nat} {t : Sem α} {Q : α → Shared → Prop} {E : Value → Shared → Prop} {s : Shared}
    (h : wpP M (LvA d A.frames) t Q E s) (hh : A.handled = none := by rfl) (hg : A.guards = some [] := by rfl) (hd : A.depth ≤ d := by exact Nat.le_of_ble_eq_true rfl) (hu : A.units ≤ 10 * d := by exact Nat.le_of_ble_eq_true rfl) : wpP M A t Q E s :=
  h.up hh hd rfl hg hu
theorem sink_new_spec {w : World} {fr : Option (List Env)} {s : Shared} {Q E : Value → Shared → Prop} (G : Gd w s.heap)
    (ret : ∀ x dx ba hs t nn h' tk, (∀ q ∈ sinkObjs x dx ba hs t nn #[], h'.get? q.1 = some q.2 ∧ s.heap.get? q.1 = none) → @LT.lt Nat _ dx x ∧ @LT.lt Nat _ x ba → Ext s.heap h' → Q (.ref x) { s with heap := h', toks := tk }) :
    wpP (model PySem.Challenge.rw_pb0583_01.row.prog w) (LvA 550 fr) (call (.ref 123) [] []) Q E s := by
  have G' := G
  obtain ⟨X, p, loose, mean, mg, mb, T⟩ := G
  revert X; k_fill; intro X
  have n1 : (s.heap.push emptyDict).objs.size = s.heap.objs.size + 1 := Heap.size_push ..
  have g1 : ((s.heap.push emptyDict).push (instObj 123 s.heap.objs.size)).get? (s.heap.objs.size + 1) = some (instObj 123 s.heap.objs.size) := by
    rw [← n1]; exact Heap.get?_push_size _ rfl
  have g2 : ((s.heap.push emptyDict).push (instObj 123 s.heap.objs.size)).get? s.heap.objs.size = some (dictOf [] 0) := Heap.get?_push_of_some _ (Heap.get?_push_size _ rfl)
  have st : Ext s.heap ((s.heap.push emptyDict).push (instObj 123 s.heap.objs.size)) := fun b o e => Heap.get?_push_of_some _ (Heap.get?_push_of_some _ e)
  have lt : ∀ b o, s.heap.get? b = some o → @LT.lt Nat _ b s.heap.objs.size := fun b o e => Heap.lt_size e
  refine .called (makeP X (by k_is) (by k_is) (by k_is) (codeP.up (A' := LvA 560 fr) (sink_init_spec g1 g2 (Nat.lt_succ_self _) (G'.keeps fun b o e => hideAll_get _ (st b o e) ?_) fun ba hs t nn h' tk e1 e2 e4 e3 => ?_) rfl (Nat.le_of_ble_eq_true rfl) rfl rfl (Nat.le_of_ble_eq_true rfl)))
  · have := lt b o e
    simp only [List.mem_cons, List.not_mem_nil, or_false]
    rintro (q | q) <;> (have q' : @Eq Nat b _ := q; omega)
  · refine ⟨rfl, ret _ _ ba hs t nn h' tk (fun q hq => ⟨e1 q hq, ?_⟩) ⟨Nat.lt_succ_self _, e4⟩ fun b o e => e3 b o ?_ (st b o e)⟩
    · cases z : s.heap.get? q.1 with
      | none => rfl
      | some o =>
        have z1 := lt _ _ z
        have z2 := st _ _ z
        simp only [sinkObjs, List.mem_cons, List.not_mem_nil, or_false] at hq
        rcases hq with rfl | rfl | rfl
        · simp only at z1; omega
        · simp only at z1; omega
        · dsimp only at e2; rw [e2] at z2; cases z2
    · have := lt b o e
      simp only [List.mem_cons, List.not_mem_nil, or_false]
      rintro (q | q) <;> (have q' : @Eq Nat b _ := q; omega)
end
section
-- part P9
local macro_rules | `(tactic| walk_at "getMethod ref") => `(tactic| ((with_reducible show wpAny _ _ (getMethod (Value.ref _) (PySem.Str.ofString "extend") _) _ _ _); refine Halt.mk ?_))
theorem ba_attrs : PlainAttrs "bytearray" :=
  ⟨⟨"bytearray.__getattribute__", by rw [typeLookup_type, builtinLookup_eq_fast]; kernel_rfl, by decide +kernel⟩, by rw [typeLookup_type, builtinLookup_eq_fast]; kernel_rfl⟩
theorem ba_extType : typeOf (.builtin "bytearray.extend") = pure (.type "method_descriptor") := by kernel_rfl
theorem ext_of_mu {g h : Heap} {L : Addr} {m : Str → Option Value} {mu : List (Addr × Obj)} {fs : List Addr} (has : mu.map (·.1) = fs) (F : Fr (hideAll g fs) L h m) (N : News (hideAll g fs) L h mu) (hmu : ∀ q ∈ mu, g.get? q.1 = some q.2) : Ext g h := fun b o e => by
  by_cases hb : b ∈ fs
  · obtain ⟨q, hq, rfl⟩ := List.mem_map.mp (has ▸ hb)
    rw [hmu q hq] at e; cases e
    exact (N q hq).1
  · exact F.keep b o (hideAll_get _ e hb)
theorem ints_append {b c : Array UInt8} : KBw.bInts (b ++ c) = KBw.bInts b ++ KBw.bInts c := by
  simp [KBw.bInts]
set_option maxHeartbeats 4000000 in
theorem sink_number_spec {w : World} {fr : Option (List Env)} {s : Shared} {Q E : Value → Shared → Prop} {x dx ba : Addr} {hs : Int} {ts : Tok} {nn : Nat} {b : Array UInt8} {v : Int} {n : Nat} {tv tn : Tok}
    (hmu : ∀ q ∈ sinkObjs x dx ba hs ts nn b, s.heap.get? q.1 = some q.2) (G : Gd w (hideAll s.heap [x, dx, ba])) (hne : @LT.lt Nat _ dx x ∧ @LT.lt Nat _ x ba) (hb : b.size ≤ 1000) (hn : n ≤ 8) (h0 : 0 ≤ v) (h1 : v < 256 ^ n)
    (ret : ∀ b' h' tk, KBw.bInts b' = KBw.bInts b ++ dig v n → Exo [ba] s.heap h' → h'.get? ba = some (baObj b') → Q .none { s with heap := h', toks := tk }) :
    wpP (model PySem.Challenge.rw_pb0583_01.row.prog w) (LvA 560 fr) (call (.ref 99) [.ref x, .int v tv, .int n tn]) Q E s := by
  obtain ⟨X, p, loose, mean, mg, mb, T⟩ := G
  obtain ⟨ne1, ne2⟩ := hne
  revert X; k_fill; intro X
  refine .called ?_
  refine' enterPM (mu := sinkObjs x dx ba hs ts nn b) (fs := [x, dx, ba]) (binds := [("self", .ref x), ("number", .int v tv), ("size", .int n tn)]) ?k0 rfl ?k1 ?k2 ?k3 ?k4 ?k5 ?k6 ?k7 ?_ ?c2 ?c3 ?c4 ?c5
  case k0 => exact hmu
  (k_dflt ((case k1 => k_asm); (case k2 => k_asm); (case k3 => k_is); (case k4 => k_is); (case k5 => exact Nat.le_of_ble_eq_true rfl); (case k6 => first | exact BindsTo.of_eq rfl | exact binds_K (by k_in) rfl (by k_is) rfl rfl rfl); (case k7 => exact locs rfl); (case c2 => exact rfl); (case c3 => exact rfl); (case c4 => exact rfl); (case c5 => decide)))
  intro L' h' hL F' N' l'
  have hl3 := ltN (l' _ (List.mem_cons_of_mem _ (List.mem_cons_of_mem _ List.mem_cons_self)))
  dsimp only at hl3
  clear l'
  unfold sinkObjs at N'
  refine wpP.mono (E := fun _ _ => False) (Q := fun fl s' => fl = .next ∧ Q .none s') ?_ (fun fl s' q => by rw [q.1]; exact q.2) (fun _ _ q => q.elim)
  refine .cons (.stExpr (.method ?_))
  k_steps
  have hba : h'.get? ba = some (baObj b) := (N' (ba, baObj b) (by simp)).1
  rename Fr _ _ _ _ => F1
  refine Halt.go (getMethod_builtin (T := "bytearray") (ba_type hba) ba_attrs ba_extend ba_extType (fun a q => by cases q; exact ⟨_, hba, rfl⟩) ?_)
  refine .calledWith (P := fun _ => True) rfl (fun _ _ => ⟨_, .inr (.inl rfl), Looks.of_pure rfl⟩) (.any ?_)
  refine evalArgs_kw2 (by rfl) ?_
  k_steps
  refine Halt.go (atLv (d := 600) (octets_of_spec ⟨X.keeps F1.keep, p, loose, mean, mg, mb, T.keeps F1.keep⟩ hn h0 h1 fun c t h2 tk2 hc k2 => ?_))
  dsimp only at k2 ⊢
  k_steps
  all_goals try exact True.intro
  show wpP _ _ (call (.builtin "bytearray.extend") [.ref ba, .bytes c t] []) _ _ _
  refine ba_callExtend (b := b) (c := c) (k2 _ _ hba) ?_ ?_
  · rw [sizeLine_eq]; have := congrArg List.length hc; rw [KBw.ints_length, dig_length] at this; omega
  intro h3 e1 e2
  exact ⟨fun a q => (by cases q), .nil ⟨rfl, ret _ h3 _ (by rw [ints_append, hc]) (fun b' o nb e => e2 _ _ nb (k2 _ _ (ext_of_mu rfl F1 N' hmu _ _ e))) e1⟩⟩
set_option maxHeartbeats 4000000 in
theorem sink_put_spec {w : World} {fr : Option (List Env)} {s : Shared} {Q E : Value → Shared → Prop} {x dx ba : Addr} {hs : Int} {ts : Tok} {nn : Nat} {b c : Array UInt8} {t : Tok}
    (hmu : ∀ q ∈ sinkObjs x dx ba hs ts nn b, s.heap.get? q.1 = some q.2) (G : Gd w (hideAll s.heap [x, dx, ba])) (hne : @LT.lt Nat _ dx x ∧ @LT.lt Nat _ x ba) (hb : b.size ≤ 1000) (hc : c.size ≤ 1000)
    (ret : ∀ h' tk, Exo [ba] s.heap h' → h'.get? ba = some (baObj (b ++ c)) → Q .none { s with heap := h', toks := tk }) :
    wpP (model PySem.Challenge.rw_pb0583_01.row.prog w) (LvA 560 fr) (call (.ref 106) [.ref x, .bytes c t]) Q E s := by
  obtain ⟨X, p, loose, mean, mg, mb, T⟩ := G
  obtain ⟨ne1, ne2⟩ := hne
  revert X; k_fill; intro X
  refine .called ?_
  refine' enterPM (mu := sinkObjs x dx ba hs ts nn b) (fs := [x, dx, ba]) (binds := [("self", .ref x), ("octets", .bytes c t)]) ?k0 rfl ?k1 ?k2 ?k3 ?k4 ?k5 ?k6 ?k7 ?_ ?c2 ?c3 ?c4 ?c5
  case k0 => exact hmu
  (k_dflt ((case k1 => k_asm); (case k2 => k_asm); (case k3 => k_is); (case k4 => k_is); (case k5 => exact Nat.le_of_ble_eq_true rfl); (case k6 => first | exact BindsTo.of_eq rfl | exact binds_K (by k_in) rfl (by k_is) rfl rfl rfl); (case k7 => exact locs rfl); (case c2 => exact rfl); (case c3 => exact rfl); (case c4 => exact rfl); (case c5 => decide)))
  intro L' h' hL F' N' l'
  have hl3 := ltN (l' _ (List.mem_cons_of_mem _ (List.mem_cons_of_mem _ List.mem_cons_self)))
  dsimp only at hl3
  clear l'
  unfold sinkObjs at N'
  refine wpP.mono (E := fun _ _ => False) (Q := fun fl s' => fl = .next ∧ Q .none s') ?_ (fun fl s' q => by rw [q.1]; exact q.2) (fun _ _ q => q.elim)
  refine .cons (.stExpr (.method ?_))
  k_steps
  have hba : h'.get? ba = some (baObj b) := (N' (ba, baObj b) (by simp)).1
  rename Fr _ _ _ _ => F1
  refine Halt.go (getMethod_builtin (T := "bytearray") (ba_type hba) ba_attrs ba_extend ba_extType (fun a q => by cases q; exact ⟨_, hba, rfl⟩) ?_)
  refine .calledWith (P := fun _ => True) rfl (fun _ _ => ⟨_, .inr (.inl rfl), Looks.of_pure rfl⟩) (.any ?_)
  refine evalArgs_kw2 (by rfl) ?_
  k_steps
  all_goals try exact True.intro
  show wpP _ _ (call (.builtin "bytearray.extend") [.ref ba, .bytes c t] []) _ _ _
  refine ba_callExtend (b := b) (c := c) hba ?_ ?_
  · rw [sizeLine_eq]; omega
  intro h3 e1 e2
  exact ⟨fun a q => (by cases q), .nil ⟨rfl, ret h3 _ (fun b' o nb e => e2 _ _ nb (ext_of_mu rfl F1 N' hmu _ _ e)) e1⟩⟩
end
section
-- part P10
theorem ba_noBytes : typeLookup (.type "bytearray") "__bytes__" = pure none := by rw [typeLookup_type, builtinLookup_eq_fast]; kernel_rfl
theorem ba_noIndex : typeLookup (.type "bytearray") "__index__" = pure none := by rw [typeLookup_type, builtinLookup_eq_fast]; kernel_rfl
theorem ba_buffer : typeLookup (.type "bytearray") "__buffer__" = pure (some (.builtin "bytearray.__buffer__")) := by rw [typeLookup_type, builtinLookup_eq_fast]; kernel_rfl
theorem by_bytes : typeLookup (.type "bytes") "__bytes__" = pure (some (.builtin "bytes.__bytes__")) := by rw [typeLookup_type, builtinLookup_eq_fast]; kernel_rfl
theorem in_noBytes : typeLookup (.type "int") "__bytes__" = pure none := by rw [typeLookup_type, builtinLookup_eq_fast]; kernel_rfl
theorem in_index : typeLookup (.type "int") "__index__" = pure (some (.builtin "int.__index__")) := by rw [typeLookup_type, builtinLookup_eq_fast]; kernel_rfl
section
variable {prog : Program} {w : World} {M : Model} {A : Around} {E : Value → Shared → Prop} {s : Shared} {a : Addr} {b : Array UInt8} {t : Tok} {Q : Value → Shared → Prop}
/-- bytes(x), where the run of `bytes.__new__` is known -/
theorem by_call {x : Value} {b : Array UInt8} {Q : Value → Shared → Prop}
    (run : ∀ (A : Around) (E : Value → Shared → Prop) (R : Fin → Shared → Prop), (∀ t k, R (.done (.ret (.bytes b t))) { s with toks := k }) → wpAny (model prog w) A (Builtin.«bytes.__new__» ⟨[.type "bytes", x], []⟩) R E s)
    (h : ∀ t k, Q (.bytes b t) { s with toks := k }) : wpAny (model prog w) A (call (.type "bytes") [x]) Q E s := by
  refine callType_codes (Q₁ := fun obj s₁ => s₁.TypeIs obj "bytes" ∧ Q obj s₁) F.bm_called (F.bm_typeCall _) F.entry_object_init ?_ fun obj s₁ h₁ => ?_
  · refine codeAny_of_tree ?_
    show wpAny _ _ (do checkBuiltinCall "bytes.__new__" ⟨[.type "bytes", x], []⟩; again (.builtin "bytes.__new__" ⟨[.type "bytes", x], []⟩)) _ _ s
    refine wpAny_bind (wpAny_of_eq (F.bm_newCall _) (wpAny_pure ⟨plainId_quiet F.bm_plain _, codeAny_builtin F.bm_entry (run _ _ _ fun t k => ?_)⟩))
    exact ⟨typeIs_bytes _ _ _, h t k⟩
  · exact ⟨h₁.1, F.args_object_init_2 obj _, object_init_meets F.bm_called.init.lookup F.bm_called.made (by decide) prog w A.in1 _ s₁ ⟨h₁.1, rfl, h₁.2⟩⟩
theorem by_of_bytes (h : ∀ t k, Q (.bytes b t) { s with toks := k }) : wpAny (model prog w) A (call (.type "bytes") [.bytes b t]) Q E s := by
  obtain ⟨hp, g, d, tk, os⟩ := s
  refine by_call (b := b) (fun A E R hR => ?_) h
  unfold Builtin.«bytes.__new__»
  refine wpAny_bind (wpAny_of_eq (a := true) rfl ?_)
  refine bm_if_false rfl ?_
  refine wpAny_bind (wpAny_of_eq F.bm_sub ?_)
  refine bm_if_false rfl ?_
  refine wpAny_bind (wpAny_of_eq (F.bm_bind _) ?_)
  refine wpAny_bind (wpAny_of_eq (a := ()) rfl ?_)
  refine wpAny_bind (wpAny_of_eq (a := ()) rfl ?_)
  refine bm_if_false rfl ?_
  refine wpAny_bind (wpAny_of_eq (KBy.special_eq by_bytes) ?_)
  refine wpAny_bind (wpAny_rule (wpAny_bind (wpAny_typeOf (typeIs_bytes _ _ _) ?_)))
  refine bm_if_true (by decide) ?_
  show wpAny _ _ (if (Value.type "bytes" == Value.type "bytes") = true then _ else _) _ _ _
  refine bm_if_true (by decide) ?_
  first
    | exact wpAny_pure (hR t tk)
    | exact wpAny_bind (wpAny_pure (wpAny_pure (hR t tk)))
theorem by_of_int {n : Int} (h0 : 0 ≤ n) (hn : n ≤ 1000) (h : ∀ t k, Q (.bytes (Array.replicate n.toNat 0) t) { s with toks := k }) : wpAny (model prog w) A (call (.type "bytes") [.int n t]) Q E s := by
  refine by_call (b := Array.replicate n.toNat 0) (fun A E R hR => ?_) h
  unfold Builtin.«bytes.__new__»
  refine wpAny_bind (wpAny_of_eq (a := true) rfl ?_)
  refine bm_if_false rfl ?_
  refine wpAny_bind (wpAny_of_eq F.bm_sub ?_)
  refine bm_if_false rfl ?_
  refine wpAny_bind (wpAny_of_eq (F.bm_bind _) ?_)
  refine wpAny_bind (wpAny_of_eq (a := ()) rfl ?_)
  refine wpAny_bind (wpAny_of_eq (a := ()) rfl ?_)
  refine bm_if_false rfl ?_
  have e1 : ∀ name : Str, specialOf (.int n t) name = typeLookup (.type "int") name := fun name => rfl
  refine wpAny_bind (wpAny_of_eq ((e1 _).trans in_noBytes) ?_)
  refine wpAny_bind (wpAny_of_eq (a := false) rfl ?_)
  refine bm_if_false rfl ?_
  refine wpAny_bind (wpAny_of_eq ((e1 _).trans in_index) ?_)
  refine bm_if_false rfl ?_
  refine wpAny_bind (wpAny_of_eq (a := Except.ok n) rfl ?_)
  dsimp only
  refine bm_if_false (by unfold Builtin.Bytes.fitsIndex; simp only [Bool.not_eq_false', Bool.and_eq_true, decide_eq_true_eq]; omega) ?_
  refine (show wpAny _ _ (if _ then _ else _) _ _ _ from ?_)
  rw [if_neg (by omega)]
  rw [if_neg (by omega)]
  refine bm_if_false (by unfold Builtin.Bytes.tooLong; rw [sizeLine_eq]; exact decide_eq_false (by omega)) ?_
  refine wpAny_bind (wpAny_rule (wpAny_bind (wpAny_mkBytes ?_ (by rw [Array.size_replicate, sizeLine_eq]; omega))))
  show wpAny _ _ (if (Value.type "bytes" == Value.type "bytes") = true then _ else _) _ _ _
  refine bm_if_true (by decide) ?_
  first
    | exact wpAny_pure (hR _ _)
    | exact wpAny_bind (wpAny_pure (wpAny_pure (hR _ _)))
theorem by_of_ba (ho : s.heap.get? a = some (baObj b)) (hb : b.size ≤ sizeLine) (h : ∀ t k, Q (.bytes b t) { s with toks := k }) : wpAny (model prog w) A (call (.type "bytes") [.ref a]) Q E s := by
  refine by_call (b := b) (fun A E R hR => ?_) h
  unfold Builtin.«bytes.__new__»
  refine wpAny_bind (wpAny_of_eq (a := true) rfl ?_)
  refine bm_if_false rfl ?_
  refine wpAny_bind (wpAny_of_eq F.bm_sub ?_)
  refine bm_if_false rfl ?_
  refine wpAny_bind (wpAny_of_eq (F.bm_bind _) ?_)
  refine wpAny_bind (wpAny_of_eq (a := ()) rfl ?_)
  refine wpAny_bind (wpAny_of_eq (a := ()) rfl ?_)
  refine bm_if_false rfl ?_
  refine wpAny_bind (wpAny_specialOf (ba_type ho) ba_noBytes ?_)
  refine wpAny_bind (wpAny_bind ?_)
  show wpAny _ _ (load a >>= _) _ _ _
  refine wpAny_bind (wpAny_load ho (wpAny_pure (wpAny_pure ?_)))
  refine bm_if_false rfl ?_
  refine wpAny_bind (wpAny_specialOf (ba_type ho) ba_noIndex ?_)
  refine bm_if_true rfl ?_
  refine wpAny_bind ?_
  have key : ∀ x : String, x = "bytearray" → ∀ {Q : Bool → Shared → Prop}, Q true s → wpAny (model prog w) A (isInstance (.ref a) (.type x)) Q E s := fun x hx Q h => by rw [hx]; exact wpAny_isInstance (ba_type ho) ba_sub h
  unfold Builtin.Bytes.buffer?
  refine wpAny_bind (wpAny_specialOf (ba_type ho) ba_buffer ?_)
  unfold Builtin.Bytes.slotIsOwn
  refine wpAny_bind (wpAny_bind (wpAny_specialOf (ba_type ho) ba_buffer ?_))
  dsimp only
  split
  · rename_i hx
    exact absurd hx (by decide +kernel)
  refine key _ (by decide +kernel) ?_
  refine bm_if_false rfl ?_
  refine wpAny_bind (wpAny_specialOf (ba_type ho) ba_buffer ?_)
  refine wpAny_bind (ba_own ho ?_)
  refine bm_if_false rfl ?_
  refine wpAny_bind (ba_payload ho (wpAny_pure ?_))
  refine wpAny_bind (wpAny_rule (wpAny_bind (wpAny_mkBytes ?_ hb)))
  show wpAny _ _ (if (Value.type "bytes" == Value.type "bytes") = true then _ else _) _ _ _
  refine bm_if_true (by decide) ?_
  first
    | exact wpAny_pure (hR _ _)
    | exact wpAny_bind (wpAny_pure (wpAny_pure (hR _ _)))
end
end
section
-- part P11
local macro_rules | `(tactic| walk_at "call type:bytes") => `(tactic| refine Halt.mk ?_)
theorem ints_zeros {n : Nat} : KBw.bInts (Array.replicate n 0) = List.replicate n 0 := by
  simp [KBw.bInts]
theorem enterF {w : World} {A : Around} {s : Shared} {K : Frag} {R : Result → Shared → Prop} {p : Program} {loose : List Str} {mean : ExcName → Option Value} {mg mb : Str → Option Value} {mu : List (Addr × Obj)} {fs : List Addr}
    {name qual : Str} {params : Arguments} {body : List Stmt} {scope : Scope} {dV kV doc pm cdv ct oc : Value} {an od : Option Addr} {osl : Array (Option Value)} {f : Addr} {args : Args} {binds : List (Str × Value)}
    (hmu : ∀ q ∈ mu, s.heap.get? q.1 = some q.2) (has : mu.map (·.1) = fs) (X : K.In (hideAll s.heap fs)) (T : Top p loose mean mg mb (hideAll s.heap fs))
    (ho : K.lookup f = some ⟨oc, od, .func (fnOf name qual params body scope dV kV doc pm an cdv ct), osl⟩) (hcd : codeIn K cdv qual = true) (hroom : A.depth < recursionLimit)
    (hbind : BindsTo s (fnOf name qual params body scope dV kV doc pm an cdv ct) args binds) (hloc : ∀ y ∈ binds, scope.names.lookup y.1 = some .local)
    (h : ∀ L' h₁, Fr (hideAll s.heap fs) L' h₁ (fun y => binds.reverse.lookup y) → News (hideAll s.heap fs) L' h₁ mu → (∀ q ∈ mu, q.1 < L') →
      wpAny (model PySem.Challenge.rw_pb0583_01.row.prog w) (A.deeper (envOf qual scope L' f cdv)) (execs body (envOf qual scope L' f cdv))
        (fun fl s' => R (.ok (.ret (match fl with | .ret v => v | _ => .none))) s')
        (fun e s' => wpAny (model PySem.Challenge.rw_pb0583_01.row.prog w) (A.deeper (envOf qual scope L' f cdv)) (leaving (envOf qual scope L' f cdv) e) (fun _ s'' => R (.error e) s'') (fun e' s'' => R (.error e') s'') s')
        { s with heap := h₁, toks := s.toks + binds.length })
    (hco : scope.isCoroutine = false := by rfl) (hgen : scope.isGenerator = false := by rfl) (hk : scope.kind = .function := by rfl)
    (hcell : ∀ x ∈ scope.names, x.2 ≠ .cell := by decide) : codeAny (model PySem.Challenge.rw_pb0583_01.row.prog w) A (.call (.ref f) args) R s := by
  subst has
  exact enterM hmu X T ho hcd hroom hbind hloc h hco hgen hk hcell
set_option maxHeartbeats 4000000 in
theorem sink_whole_spec {w : World} {fr : Option (List Env)} {s : Shared} {Q E : Value → Shared → Prop} {x dx ba : Addr} {hs : Int} {ts : Tok} {nn : Nat} {b : Array UInt8}
    (hmu : ∀ q ∈ sinkObjs x dx ba hs ts nn b, s.heap.get? q.1 = some q.2) (G : Gd w (hideAll s.heap [x, dx, ba])) (hb : b.size ≤ 1000)
    (ret : ∀ t h' tk, Ext s.heap h' → Q (.bytes b t) { s with heap := h', toks := tk }) :
    wpAny (model PySem.Challenge.rw_pb0583_01.row.prog w) (LvA 560 fr) (call (.ref 120) [.ref x]) Q E s := by
  obtain ⟨X, p, loose, mean, mg, mb, T⟩ := G
  revert X; k_fill; intro X
  refine wpAny_call ?_
  refine' enterF (mu := sinkObjs x dx ba hs ts nn b) (fs := [x, dx, ba]) (binds := [("self", .ref x)]) ?k0 rfl ?k1 ?k2 ?k3 ?k4 ?k5 ?k6 ?k7 ?_ ?c2 ?c3 ?c4 ?c5
  case k0 => exact hmu
  (k_dflt ((case k1 => k_asm); (case k2 => k_asm); (case k3 => k_is); (case k4 => k_is); (case k5 => exact Nat.le_of_ble_eq_true rfl); (case k6 => first | exact BindsTo.of_eq rfl | exact binds_K (by k_in) rfl (by k_is) rfl rfl rfl); (case k7 => exact locs rfl); (case c2 => exact rfl); (case c3 => exact rfl); (case c4 => exact rfl); (case c5 => decide)))
  intro L' h' F' N' l'
  clear l'
  unfold sinkObjs at N'
  k_steps
  have hba : h'.get? ba = some (baObj b) := (N' (ba, baObj b) (by simp)).1
  rename Fr _ _ _ _ => F1
  refine Halt.go (by_of_ba hba (by rw [sizeLine_eq]; omega) fun t k => ?_)
  k_steps
  exact ret _ _ _ (ext_of_mu (mu := sinkObjs x dx ba hs ts nn b) (fs := [x, dx, ba]) rfl F1 N' hmu)
set_option maxHeartbeats 4000000 in
theorem padded_spec {w : World} {fr : Option (List Env)} {s : Shared} {Q E : Value → Shared → Prop} {b : Array UInt8} {t tn : Tok} {n : Int}
    (G : Gd w s.heap) (hb : (b.size : Int) ≤ n) (hn : n ≤ 1000)
    (ret : ∀ c t h' tk, KBw.bInts c = KBw.bInts b ++ List.replicate (n - b.size).toNat 0 → Ext s.heap h' → Q (.bytes c t) { s with heap := h', toks := tk }) :
    wpAny (model PySem.Challenge.rw_pb0583_01.row.prog w) (LvA 600 fr) (call (.ref 184) [.bytes b t, .int n tn]) Q E s := by
  obtain ⟨X, p, loose, mean, mg, mb, T⟩ := G
  revert X; k_fill; intro X
  refine wpAny_call ?_
  refine' enterP (binds := [("octets", .bytes b t), ("size", .int n tn)]) ?k1 ?k2 ?k3 ?k4 ?k5 ?k6 ?k7 ?_ ?c2 ?c3 ?c4 ?c5
  (k_dflt ((case k1 => k_asm); (case k2 => k_asm); (case k3 => k_is); (case k4 => k_is); (case k5 => exact Nat.le_of_ble_eq_true rfl); (case k6 => first | exact BindsTo.of_eq rfl | exact binds_K (by k_in) rfl (by k_is) rfl rfl rfl); (case k7 => exact locs rfl); (case c2 => exact rfl); (case c3 => exact rfl); (case c4 => exact rfl); (case c5 => decide)))
  intro L' h' F' N'
  k_steps
  rename Fr _ _ _ _ => F1
  refine Halt.go (by_of_bytes fun t1 k1 => ?_)
  k_steps
  refine Halt.go (by_of_int (by omega) (by omega) fun t2 k2 => ?_)
  k_steps
  refine KBy.add_bytes (by rw [Array.size_replicate]; omega) fun t3 k3 => ?_
  exact ret _ _ _ _ (by rw [ints_append, ints_zeros]) F1.keep
end
section
-- part P13
set_option maxHeartbeats 4000000 in
theorem sum_of_spec {w : World} {fr : Option (List Env)} {s : Shared} {Q E : Value → Shared → Prop} {b : Array UInt8} {tb tw : Tok} {ks : List Int}
    (G : Gd w s.heap) (hk : KBw.bInts b = ks) (hb : ks.length ≤ 100)
    (ret : ∀ D a t1 b t2 c t3 d t4 h' tk, a = (words ((ks.length + 3) / 4) ks).sum % M32 → b = flS id (words ((ks.length + 3) / 4) ks) % M32 → c = flS f2 (words ((ks.length + 3) / 4) ks) % M32 → d = flS f3 (words ((ks.length + 3) / 4) ks) % M32 →
      s.heap.get? D = none → h'.get? D = some (tup4 a t1 b t2 c t3 d t4) → Ext s.heap h' → Q (.ref D) { s with heap := h', toks := tk }) :
    wpAny (model PySem.Challenge.rw_pb0583_01.row.prog w) (LvA 450 fr) (call (.ref 230) [.int 2 tw, .bytes b tb]) Q E s := by
  obtain ⟨X, p, loose, mean, mg, mb, T⟩ := G
  revert X; k_fill; intro X
  refine wpAny_call ?_
  refine' enterP (binds := [("which", .int 2 tw), ("octets", .bytes b tb)]) ?k1 ?k2 ?k3 ?k4 ?k5 ?k6 ?k7 ?_ ?c2 ?c3 ?c4 ?c5
  (k_dflt ((case k1 => k_asm); (case k2 => k_asm); (case k3 => k_is); (case k4 => k_is); (case k5 => exact Nat.le_of_ble_eq_true rfl); (case k6 => first | exact BindsTo.of_eq rfl | exact binds_K (by k_in) rfl (by k_is) rfl rfl rfl); (case k7 => exact locs rfl); (case c2 => exact rfl); (case c3 => exact rfl); (case c4 => exact rfl); (case c5 => decide)))
  intro L' h' F' N'
  k_steps
  rename Fr _ _ _ _ => F1
  have new1 : ∀ D, h'.get? D = none → s.heap.get? D = none := fun D e => by
    cases q : s.heap.get? D with
    | none => rfl
    | some o => have := F1.keep D o q; rw [e] at this; cases this
  refine Halt.go (atLv (d := 500) (fletcher4_spec ⟨X.keeps F1.keep, p, loose, mean, mg, mb, T.keeps F1.keep⟩ hk hb fun D a t1 b t2 c t3 d t4 h2 tk2 e1 e2 e3 e4 e5 e6 k2 => ?_))
  k_steps
  exact ret D a t1 b t2 c t3 d t4 _ _ e1 e2 e3 e4 (new1 D e5) e6 (fun b o e => k2 b o (F1.keep b o e))
set_option maxHeartbeats 4000000 in
theorem room_of_spec {w : World} {fr : Option (List Env)} {s : Shared} {Q E : Value → Shared → Prop} {n : Int} {tn : Tok}
    (G : Gd w s.heap) (hn : 0 ≤ n ∧ n ≤ 1000)
    (ret : ∀ t h' tk, Ext s.heap h' → Q (.int (n - 36) t) { s with heap := h', toks := tk }) :
    wpAny (model PySem.Challenge.rw_pb0583_01.row.prog w) (LvA 450 fr) (call (.ref 237) [.int n tn]) Q E s := by
  obtain ⟨X, p, loose, mean, mg, mb, T⟩ := G
  revert X; k_fill; intro X
  refine wpAny_call ?_
  refine' enterP (binds := [("size", .int n tn)]) ?k1 ?k2 ?k3 ?k4 ?k5 ?k6 ?k7 ?_ ?c2 ?c3 ?c4 ?c5
  (k_dflt ((case k1 => k_asm); (case k2 => k_asm); (case k3 => k_is); (case k4 => k_is); (case k5 => exact Nat.le_of_ble_eq_true rfl); (case k6 => first | exact BindsTo.of_eq rfl | exact binds_K (by k_in) rfl (by k_is) rfl rfl rfl); (case k7 => exact locs rfl); (case c2 => exact rfl); (case c3 => exact rfl); (case c4 => exact rfl); (case c5 => decide)))
  intro L' h' F' N'
  k_steps
  rename Fr _ _ _ _ => F1
  have e : n - 36 = n - 20 - 16 := by omega
  rw [e] at ret
  exact ret _ _ _ F1.keep
end
section
-- part P15
local macro_rules | `(tactic| walk_at "pyIter ref") => `(tactic| refine Halt.mk ?_)
theorem news_of {g h h' : Heap} {L : Addr} {m : Str → Option Value} {l : List (Addr × Obj)} (F : Fr g L h m) (ho : ∀ q ∈ l, h'.get? q.1 = some q.2 ∧ h.get? q.1 = none) : News g L h' l := fun q hq => by
  obtain ⟨e1, e2⟩ := ho q hq
  refine ⟨e1, fun z => ?_, ?_⟩
  · obtain ⟨o, _, _, hoL, _⟩ := F.ns
    have z' : q.1 = L := z
    rw [z', hoL] at e2; cases e2
  · cases z : g.get? q.1 with
    | none => rfl
    | some o => have := F.keep _ o z; rw [e2] at this; cases this
theorem enterPP {w : World} {A : Around} {s : Shared} {K : Frag} {R : Result → Shared → Prop} {p : Program} {loose : List Str} {mean : ExcName → Option Value} {mg mb : Str → Option Value}
    {name qual : Str} {params : Arguments} {body : List Stmt} {scope : Scope} {dV kV doc pm cdv ct oc : Value} {an od : Option Addr} {osl : Array (Option Value)} {f : Addr} {args : Args} {binds : List (Str × Value)}
    (X : K.In s.heap) (T : Top p loose mean mg mb s.heap)
    (ho : K.lookup f = some ⟨oc, od, .func (fnOf name qual params body scope dV kV doc pm an cdv ct), osl⟩) (hcd : codeIn K cdv qual = true) (hroom : A.depth < recursionLimit)
    (hbind : BindsTo s (fnOf name qual params body scope dV kV doc pm an cdv ct) args binds) (hloc : ∀ y ∈ binds, scope.names.lookup y.1 = some .local)
    (h : ∀ L' h₁, Fr s.heap L' h₁ (fun y => binds.reverse.lookup y) → News s.heap L' h₁ [] →
      wpP (model PySem.Challenge.rw_pb0583_01.row.prog w) (A.deeper (envOf qual scope L' f cdv)) (execs body (envOf qual scope L' f cdv))
        (fun fl s' => R (.ok (.ret (match fl with | .ret v => v | _ => .none))) s')
        (fun e s' => wpAny (model PySem.Challenge.rw_pb0583_01.row.prog w) (A.deeper (envOf qual scope L' f cdv)) (leaving (envOf qual scope L' f cdv) e) (fun _ s'' => R (.error e) s'') (fun e' s'' => R (.error e') s'') s')
        { s with heap := h₁, toks := s.toks + binds.length })
    (hco : scope.isCoroutine = false := by rfl) (hgen : scope.isGenerator = false := by rfl) (hk : scope.kind = .function := by rfl)
    (hcell : ∀ x ∈ scope.names, x.2 ≠ .cell := by decide) : codeP (model PySem.Challenge.rw_pb0583_01.row.prog w) A (.call (.ref f) args) R s :=
  enterPM (mu := []) (fs := []) (List.forall_mem_nil _) rfl X T ho hcd hroom hbind hloc (fun L' h₁ _ F N _ => h L' h₁ F N) hco hgen hk hcell
set_option maxHeartbeats 4000000 in
theorem sum_octets_spec {w : World} {fr : Option (List Env)} {s : Shared} {Q E : Value → Shared → Prop} {b : Array UInt8} {tb : Tok} {ks : List Int}
    (G : Gd w s.heap) (hk : KBw.bInts b = ks) (hb : ks.length ≤ 100)
    (ret : ∀ c t h' tk, KBw.bInts c = dig ((words ((ks.length + 3) / 4) ks).sum % M32) 4 ++ dig (flS id (words ((ks.length + 3) / 4) ks) % M32) 4 ++ dig (flS f2 (words ((ks.length + 3) / 4) ks) % M32) 4 ++ dig (flS f3 (words ((ks.length + 3) / 4) ks) % M32) 4 →
      Ext s.heap h' → Q (.bytes c t) { s with heap := h', toks := tk }) :
    wpP (model PySem.Challenge.rw_pb0583_01.row.prog w) (LvA 400 fr) (call (.ref 244) [.bytes b tb]) Q E s := by
  obtain ⟨X, p, loose, mean, mg, mb, T⟩ := G
  revert X; k_fill; intro X
  refine .called ?_
  refine' enterPP (binds := [("body", .bytes b tb)]) ?k1 ?k2 ?k3 ?k4 ?k5 ?k6 ?k7 ?_ ?c2 ?c3 ?c4 ?c5
  (k_dflt ((case k1 => k_asm); (case k2 => k_asm); (case k3 => k_is); (case k4 => k_is); (case k5 => exact Nat.le_of_ble_eq_true rfl); (case k6 => first | exact BindsTo.of_eq rfl | exact binds_K (by k_in) rfl (by k_is) rfl rfl rfl); (case k7 => exact locs rfl); (case c2 => exact rfl); (case c3 => exact rfl); (case c4 => exact rfl); (case c5 => decide)))
  intro L' h' F' N'
  refine wpP.mono (E := fun _ _ => False) (Q := fun fl s' => ∃ c t h' tk, fl = .ret (.bytes c t) ∧ KBw.bInts c = dig ((words ((ks.length + 3) / 4) ks).sum % M32) 4 ++ dig (flS id (words ((ks.length + 3) / 4) ks) % M32) 4 ++ dig (flS f2 (words ((ks.length + 3) / 4) ks) % M32) 4 ++ dig (flS f3 (words ((ks.length + 3) / 4) ks) % M32) 4 ∧
      Ext s.heap h' ∧ s' = { s with heap := h', toks := tk }) ?_ (fun fl s' q => by obtain ⟨c, t, h', tk, rfl, e1, e2, rfl⟩ := q; exact ret c t h' tk e1 e2) (fun _ _ q => q.elim)
  refine opqP fun QQ hQQ => ?_
  refine .cons (.stAssign (.callName ?_))
  k_steps
  rename Fr _ _ _ _ => F1
  refine .calledWith (P := fun h => (hd.heap_1 w.params).In h) rfl (keeps_K (by k_is)) (.any (wpAny_pure ⟨X.keeps F1.keep, ?_⟩))
  refine atLvP (d := 550) (sink_new_spec ⟨X.keeps F1.keep, p, loose, mean, mg, mb, T.keeps F1.keep⟩ fun x dx ba hs t nn h2 tk2 hobj hne k2 => ?_)
  have F2 := fr_ext F1 k2
  have N2 := news_of F1 hobj
  obtain ⟨ne1, ne2⟩ := hne
  clear F1 N'
  unfold sinkObjs at N2
  k_steps
  dsimp only
  rename Fr _ _ _ _ => F3
  rename News _ _ _ _ => N3
  rename_i h3
  refine .cons (.stFor ?_)
  k_steps
  have hks : ks.length ≤ 100 := hb
  refine Halt.go (atLv (d := 450) (sum_of_spec ⟨X.keeps F3.keep, p, loose, mean, mg, mb, T.keeps F3.keep⟩ hk hb fun D a t1 b' t2 c t3 d t4 h4 tk4 e1 e2 e3 e4 e5 e6 k4 => ?_))
  dsimp only at e5 e6 k4 ⊢
  have F4 := fr_ext F3 k4
  have N4 := news_add F3 N3 k4 e5 e6
  have hDba : D ≠ ba := fun q => by have := (N3 (ba, baObj #[]) (by simp)).1; dsimp only at this; rw [← q, e5] at this; cases this
  have lt4 : ∀ q ∈ (D, tup4 a t1 b' t2 c t3 d t4) :: sinkObjs x dx ba hs t nn #[], @LT.lt Nat _ q.1 h4.objs.size := fun q hq => Heap.lt_size (N4 q hq).1
  have lL := fr_lt F4
  refine Halt.go (wpAny_pyIter_tuple (items := #[.int a t1, .int b' t2, .int c t3, .int d t4]) ⟨_, e6, rfl, _, rfl⟩ ?_)
  dsimp only
  have sI : s.heap.get? h4.objs.size = none := by
    cases q : s.heap.get? h4.objs.size with
    | none => rfl
    | some o => exact absurd (Heap.lt_size (F4.keep _ _ q)) (Nat.lt_irrefl _)
  have up : Ext h4 (h4.push { cls := .type "tuple_iterator", data := .fields #[.ref D, .int 0 0] }) := fun b o e => Heap.get?_push_of_some _ e
  have it0 : (h4.push { cls := .type "tuple_iterator", data := .fields #[.ref D, .int 0 0] }).IsTupleIter h4.objs.size D 0 := ⟨_, Heap.get?_push_size _ rfl, rfl, rfl⟩
  have F5 := fr_ext F4 up
  have N5 : News s.heap L' _ _ := fun q hq => ⟨up _ _ (N4 q hq).1, (N4 q hq).2⟩
  generalize h4.push { cls := .type "tuple_iterator", data := .fields #[.ref D, .int 0 0] } = h5 at it0 F5 N5 ⊢
  generalize h4.objs.size = I at lt4 lL sI it0 ⊢
  clear up F4 N4 F3 N3 k4 e5 e6 hobj k2
  have hpv : ∀ i, i < 4 → ∃ z tz, (#[Value.int a t1, .int b' t2, .int c t3, .int d t4])[i]? = some (.int z tz) ∧ [a, b', c, d][i]? = some z ∧ 0 ≤ z ∧ z < 256 ^ 4 := by
    have key : ∀ y z : Int, z = y % M32 → 0 ≤ z ∧ z < 256 ^ 4 := fun y z e => by
      have h1 := Int.emod_nonneg y (show M32 ≠ 0 by decide)
      have h2 := Int.emod_lt_of_pos y (show 0 < M32 by decide)
      rw [← e] at h1 h2
      exact ⟨h1, h2⟩
    intro i hi
    match i with
    | 0 => exact ⟨_, _, rfl, rfl, key _ _ e1⟩
    | 1 => exact ⟨_, _, rfl, rfl, key _ _ e2⟩
    | 2 => exact ⟨_, _, rfl, rfl, key _ _ e3⟩
    | 3 => exact ⟨_, _, rfl, rfl, key _ _ e4⟩
    | n + 4 => omega
  have exI : ∀ {h h' : Heap} {m : Str → Option Value} {l : List (Addr × Obj)}, Heap.ExtBut I h h' → Fr s.heap L' h m → News s.heap L' h l → (∀ q ∈ l, @LT.lt Nat _ q.1 I) → Fr s.heap L' h' m ∧ News s.heap L' h' l := fun he F N hl => by
    have k : Exo [I] _ _ := fun q o n e => he q o (fun z => n (by simp [z])) e
    refine ⟨fr_exo F k fun q hq => ?_, news_exo N k fun q hq z => ?_⟩
    · rw [List.mem_singleton.mp hq]; exact ⟨sI, Nat.ne_of_gt lL⟩
    · have := hl q hq; rw [List.mem_singleton.mp z] at this; exact Nat.lt_irrefl _ this
  have lts : ∀ bb, ∀ q ∈ [(D, tup4 a t1 b' t2 c t3 d t4), (x, instObj 123 dx), (dx, dictOf [{ hash := hs, key := Value.str (Str.ofString "octets") t, val := Value.ref ba }] nn), (ba, baObj bb)], @LT.lt Nat _ q.1 I := fun bb q hq => by
    simp only [List.mem_cons, List.not_mem_nil, or_false] at hq
    rcases hq with rfl | rfl | rfl | rfl
    · exact lt4 (D, _) (by simp)
    · exact lt4 (x, _) (by simp [sinkObjs])
    · exact lt4 (dx, _) (by simp [sinkObjs])
    · exact lt4 (ba, baObj #[]) (by simp [sinkObjs])
  refine codeP.forLoop (fun n s' => ∃ (i : Nat) (bb : Array UInt8) (h : Heap) (tk : Nat) (m' : Str → Option Value), i ≤ 4 ∧ n = 4 - i ∧ s' = { s with heap := h, toks := tk } ∧ Fr s.heap L' h (fun y => if y = Str.ofString "sink" then some (Value.ref x) else m' y) ∧
    News s.heap L' h [(D, tup4 a t1 b' t2 c t3 d t4), (x, instObj 123 dx), (dx, dictOf [{ hash := hs, key := Value.str (Str.ofString "octets") t, val := Value.ref ba }] nn), (ba, baObj bb)] ∧ h.IsTupleIter I D i ∧ KBw.bInts bb = ([a, b', c, d].take i).flatMap (dig · 4))
    ?turn 4 ⟨0, #[], h5, _, _, by omega, rfl, rfl, F5, N5, it0, rfl⟩
  clear F5 N5 it0
  rintro n s' ⟨i, bb, h, tk, m', hi, rfl, rfl, F, N, hit, hbb⟩
  have hsz : bb.size ≤ 16 := by
    have := congrArg List.length hbb
    rw [KBw.ints_length] at this
    have l4 : ∀ l : List Int, (l.flatMap (dig · 4)).length = 4 * l.length := fun l => by
      induction l with
      | nil => rfl
      | cons y l ih => rw [List.flatMap_cons, List.length_append, ih, dig_length, List.length_cons]; omega
    rw [l4, List.length_take] at this
    simp only [List.length_cons, List.length_nil] at this; omega
  have htD : h.IsTuple D #[.int a t1, .int b' t2, .int c t3, .int d t4] := ⟨_, (N _ List.mem_cons_self).1, rfl, _, rfl⟩
  by_cases hi4 : i = 4
  · subst hi4
    refine wpAny_pyNext_tuple_end rfl hit htD rfl fun h6 he => ?_
    obtain ⟨F6, N6⟩ := exI he F N (lts bb)
    clear F N
    dsimp only
    refine .cons (.stReturn (.any ?_))
    k_steps
    rename Fr _ _ _ _ => F7
    have mu7 : ∀ q ∈ sinkObjs x dx ba hs t nn bb, News s.heap L' h6 [q] := fun q hq => fun r hr => by
      rw [List.mem_singleton.mp hr]
      exact N6 q (List.mem_cons_of_mem _ hq)
    have mu8 : News s.heap L' h6 (sinkObjs x dx ba hs t nn bb) := fun q hq => mu7 q hq q List.mem_cons_self
    refine Halt.go (atLv (d := 560) (sink_whole_spec (x := x) (dx := dx) (ba := ba) (hs := hs) (ts := t) (nn := nn) (b := bb) (fun q hq => (mu8 q hq).1) (gd_hide ⟨X, p, loose, mean, mg, mb, T⟩ F7 mu8) (by omega) fun t' h8 tk8 k8 => ?_))
    dsimp only
    subst hQQ
    refine ⟨bb, t', h8, _, rfl, ?_, fun q o e => k8 q o (F7.keep q o e), rfl⟩
    rw [hbb, ← e1, ← e2, ← e3, ← e4]
    simp
  · obtain ⟨z, tz, hz1, hz2, hz3, hz4⟩ := hpv i (by omega)
    refine wpAny_pyNext_tuple_item hit htD hz1 fun h6 hit6 he => ?_
    obtain ⟨F6, N6⟩ := exI he.extBut F N (lts bb)
    clear F N
    dsimp only
    obtain ⟨oi, hi1, hi2, hi3⟩ := hit6
    have N7 : News s.heap L' h6 ((I, oi) :: _) := List.forall_mem_cons.mpr ⟨⟨hi1, Nat.ne_of_gt lL, sI⟩, N6⟩
    have lI := lts bb
    simp only [List.forall_mem_cons, List.not_mem_nil, false_imp_iff, implies_true, and_true] at lI
    obtain ⟨lI1, lI2, lI3, lI4⟩ := lI
    clear N6 hi1
    k_steps
    refine .cons (.stExpr (.method ?_))
    k_steps
    rename Fr _ _ _ _ => F8
    rename News _ _ _ _ => N8
    refine .calledWith (P := fun h => (hd.heap_1 w.params).In h) rfl (keeps_K (by k_is)) (.any ?_)
    refine evalArgs_kw2 (by rfl) ?_
    k_steps
    have mu8 : News s.heap L' _ (sinkObjs x dx ba hs t nn bb) := fun q hq => N8 q (List.mem_cons_of_mem _ (List.mem_cons_of_mem _ hq))
    have hba := mu8 (ba, baObj bb) (by simp [sinkObjs])
    show wpP _ _ (call (.ref 99) [.ref x, .int z tz, .int ((4 : Nat) : Int) _] []) _ _ _
    refine atLvP (d := 560) (sink_number_spec (x := x) (dx := dx) (ba := ba) (hs := hs) (ts := t) (nn := nn) (b := bb) (n := 4) (fun q hq => (mu8 q hq).1) (gd_hide ⟨X, p, loose, mean, mg, mb, T⟩ F8 mu8) ⟨ne1, ne2⟩ (by omega) (by decide) hz3 hz4 fun b2 h9 tk9 g1 g2 g3 => ?_)
    refine ⟨fun q z => (by cases z), .nil ⟨rfl, 4 - (i + 1), by omega, i + 1, b2, h9, tk9, fun y => if y = Str.ofString "part" then some (Value.int z tz) else m' y, by omega, rfl, rfl, ?_, ?_, ?_, ?_⟩⟩
    · have F9 := fr_exo F8 g2 (fun q hq => by rw [List.mem_singleton.mp hq]; exact ⟨hba.2.2, hba.2.1⟩)
      have em : (fun y => if y = Str.ofString "part" then some (Value.int z tz) else if y = Str.ofString "sink" then some (Value.ref x) else m' y) = fun y => if y = Str.ofString "sink" then some (Value.ref x) else if y = Str.ofString "part" then some (Value.int z tz) else m' y := by
        funext y
        by_cases h1 : y = Str.ofString "part"
        · subst h1; rfl
        · rw [if_neg h1, if_neg h1]
      rw [em] at F9
      exact F9
    · have nx : ∀ {q : Addr} {o : Obj}, (q, o) ∈ [(I, oi), (D, tup4 a t1 b' t2 c t3 d t4), (x, instObj 123 dx), (dx, dictOf [{ hash := hs, key := Value.str (Str.ofString "octets") t, val := Value.ref ba }] nn), (ba, baObj bb)] → q ≠ ba → News s.heap L' h9 [(q, o)] := fun {q o} hq n r hr => by
        rw [List.mem_singleton.mp hr]
        exact ⟨g2 _ _ (fun z => n (List.mem_singleton.mp z)) (N8 _ hq).1, (N8 _ hq).2⟩
      have l1 := nx (List.mem_cons_of_mem _ List.mem_cons_self) hDba
      have l2 := nx (List.mem_cons_of_mem _ (List.mem_cons_of_mem _ List.mem_cons_self)) (Nat.ne_of_lt ne2)
      have l3 := nx (List.mem_cons_of_mem _ (List.mem_cons_of_mem _ (List.mem_cons_of_mem _ List.mem_cons_self))) (Nat.ne_of_lt (Nat.lt_trans ne1 ne2))
      have l4 : News s.heap L' h9 [(ba, baObj b2)] := fun r hr => by rw [List.mem_singleton.mp hr]; exact ⟨g3, hba.2⟩
      exact News.app l1 (News.app l2 (News.app l3 l4))
    · exact ⟨oi, g2 _ _ (fun z => Nat.ne_of_gt lI4 (List.mem_singleton.mp z)) (N8 _ List.mem_cons_self).1, hi2, hi3⟩
    · rw [g1, hbb, List.take_add_one, hz2]
      simp
end
section
-- part P16
noncomputable def tup3 (a : Int) (t : Tok) (b : Int) (u : Tok) (c : Int) (v : Tok) : Obj := { cls := .type "tuple", data := .seq #[.int a t, .int b u, .int c v] }
theorem codeAny_up {M : Model} {A A' : Around} {c : Code} {R : Result → Shared → Prop} {s : Shared}
    (h : codeAny M A' c R s) (hh : A.handled = A'.handled) (hd : A.depth ≤ A'.depth) (hf : A.frames = A'.frames) (hg : A.guards = A'.guards) (hu : A.units ≤ A'.units) : codeAny M A c R s :=
  fun Γ p hc hΓ => h Γ p hc ⟨hΓ.1.trans hh, Nat.le_trans hΓ.2.1 hd, fun l hl => hΓ.2.2.1 l (hf.trans hl), fun g hg' => hΓ.2.2.2.1 g (hg.trans hg'), Nat.le_trans hΓ.2.2.2.2 hu⟩
noncomputable def tup1 (a : Addr) : Obj := { cls := .type "tuple", data := .seq #[.ref a] }
/-- what a pointer's dict holds -/
noncomputable def ptrEnts (P : Params) (ts : List Tok) (vs : List Value) : List DictEntry :=
  (((["dvas", "kind", "level", "lsize", "psize", "packed", "summed", "birth", "fill", "sum", "dedup"] : List Str).zip ts).zip vs).map fun x => ⟨PyData.keyHash P x.1.1, .str x.1.1 x.1.2, x.2⟩
set_option maxHeartbeats 4000000 in
theorem pointer_init_spec {w : World} {fr : Option (List Env)} {s : Shared} {R : Result → Shared → Prop} {x dx : Addr} {v0 v1 v2 v3 v4 v5 v6 v7 v8 v9 v10 : Value}
    (hx : s.heap.get? x = some (instObj 276 dx)) (hdx : s.heap.get? dx = some (dictOf [] 0)) (hne : dx < x) (G : Gd w (hideAll s.heap [x, dx]))
    (ret : ∀ ts h' tk, h'.get? x = some (instObj 276 dx) → h'.get? dx = some (dictOf (ptrEnts w.params ts [v0, v1, v2, v3, v4, v5, v6, v7, v8, v9, v10]) 11) → ts.length = 11 → Exo [x, dx] s.heap h' → R (.ok (.ret .none)) { s with heap := h', toks := tk }) :
    codeAny (model PySem.Challenge.rw_pb0583_01.row.prog w) (LvA 500 fr) (.call (.ref 266) ⟨[.ref x, v0, v1, v2, v3, v4, v5, v6, v7, v8, v9, v10], []⟩) R s := by
  obtain ⟨X, p, loose, mean, mg, mb, T⟩ := G
  revert X; k_fill; intro X
  refine' enterF (mu := [(x, instObj 276 dx), (dx, dictOf [] 0)]) (fs := [x, dx]) (binds := [("self", .ref x), ("dvas", v0), ("kind", v1), ("level", v2), ("lsize", v3), ("psize", v4), ("packed", v5), ("summed", v6), ("birth", v7), ("fill", v8), ("sum_now", v9), ("dedup", v10)]) ?k0 rfl ?k1 ?k2 ?k3 ?k4 ?k5 ?k6 ?k7 ?_ ?c2 ?c3 ?c4 ?c5
  case k0 => exact List.forall_mem_cons.mpr ⟨hx, List.forall_mem_cons.mpr ⟨hdx, List.forall_mem_nil _⟩⟩
  k_dflt ((case k1 => k_asm); (case k2 => k_asm); (case k3 => k_is); (case k4 => k_is); (case k5 => exact Nat.le_of_ble_eq_true rfl); (case k6 => exact binds_K (X.keeps fun b o e => of_hideAll _ e) rfl (by k_is) rfl rfl rfl); (case k7 => exact locs rfl); (case c2 => exact rfl); (case c3 => exact rfl); (case c4 => exact rfl); (case c5 => decide))
  intro L' h' F' N' l'
  replace hne := ltN hne
  have hx1 := ltN (l' _ List.mem_cons_self)
  have hx2 := ltN (l' _ (List.mem_cons_of_mem _ List.mem_cons_self))
  dsimp only at hx1 hx2
  clear l'
  refine wpAny_mono (E := fun _ _ => False) (Q := fun fl s' => fl = .next ∧ R (.ok (.ret .none)) s') ?_ (fun fl s' q => by rw [q.1]; exact q.2) (fun _ _ q => q.elim)
  k_steps
  rename Fr _ _ _ _ => F2
  rename News _ _ _ _ => N2
  have hd := (N2 _ (List.mem_cons_of_mem _ List.mem_cons_self)).1
  exact ret [_, _, _, _, _, _, _, _, _, _, _] _ _ (N2 _ List.mem_cons_self).1 hd rfl (exo_hide F2.keep)
set_option maxHeartbeats 4000000 in
theorem log_pointer_spec {w : World} {fr : Option (List Env)} {s : Shared} {Q E : Value → Shared → Prop} {pl : Addr} {size birth chain : Int} {t1 t2 t3 : Tok}
    (G : Gd w s.heap)
    (ret : ∀ (x dx T S : Addr) (ts : List Tok) (s0 s1 s2 s3 ka kb kc kd ke : Tok) (h' : Heap) (tk : Nat), (∀ q ∈ ([(x, instObj 276 dx), (dx, dictOf (ptrEnts w.params ts [.ref T, .int 11 ka, .int 0 kb, .int size t1, .int size t1, .int 0 kc, .int 0 kd, .int birth t2, .int chain t3, .ref S, .int 0 ke]) 11),
        (T, tup1 pl), (S, tup4 0 s0 0 s1 0 s2 0 s3)] : List (Addr × Obj)), h'.get? q.1 = some q.2 ∧ s.heap.get? q.1 = none) → ts.length = 11 →
      Ext s.heap h' → Q (.ref x) { s with heap := h', toks := tk }) :
    wpAny (model PySem.Challenge.rw_pb0583_01.row.prog w) (LvA 450 fr) (call (.ref 287) [.ref pl, .int size t1, .int birth t2, .int chain t3]) Q E s := by
  obtain ⟨X, p, loose, mean, mg, mb, T⟩ := G
  revert X; k_fill; intro X
  refine wpAny_call ?_
  refine' enterP (binds := [("place", .ref pl), ("size", .int size t1), ("birth", .int birth t2), ("chain", .int chain t3)]) ?k1 ?k2 ?k3 ?k4 ?k5 ?k6 ?k7 ?_ ?c2 ?c3 ?c4 ?c5
  (k_dflt ((case k1 => k_asm); (case k2 => k_asm); (case k3 => k_is); (case k4 => k_is); (case k5 => exact Nat.le_of_ble_eq_true rfl); (case k6 => first | exact BindsTo.of_eq rfl | exact binds_K (by k_in) rfl (by k_is) rfl rfl rfl); (case k7 => exact locs rfl); (case c2 => exact rfl); (case c3 => exact rfl); (case c4 => exact rfl); (case c5 => decide)))
  intro L' h' F' N'
  k_steps
  rename Fr _ _ _ _ => F2
  rename News _ _ _ _ => N2
  refine Halt.go (call_cls F2 X N2 (by k_is) (by k_is) (by k_is) fun x dx h3 F3 N3 l1 lx => ?_)
  rename_i T1 h1 l1' S1 h2 l2'
  have lx' := ltN lx
  have x1 := (N3 _ List.mem_cons_self)
  have x2 := (N3 _ (List.mem_cons_of_mem _ List.mem_cons_self))
  have x3 := (N3 _ (List.mem_cons_of_mem _ (List.mem_cons_of_mem _ List.mem_cons_self)))
  have x4 := (N3 _ (List.mem_cons_of_mem _ (List.mem_cons_of_mem _ (List.mem_cons_of_mem _ List.mem_cons_self))))
  have y3 := ltN (l1 _ List.mem_cons_self)
  have y4 := ltN (l1 _ (List.mem_cons_of_mem _ List.mem_cons_self))
  dsimp only at x1 x2 x3 x4 y3 y4
  have mu : News s.heap L' h3 [(x, instObj 276 dx), (dx, dictOf [] 0)] := List.forall_mem_cons.mpr ⟨x1, List.forall_mem_cons.mpr ⟨x2, List.forall_mem_nil _⟩⟩
  refine codeAny_up (A' := LvA 500 _) (pointer_init_spec x1.1 x2.1 lx (gd_hide ⟨X, p, loose, mean, mg, mb, T⟩ F3 mu) fun ts h4 tk4 e1 e2 e3 e4 => ?_) rfl (Nat.le_of_ble_eq_true rfl) rfl rfl (Nat.le_of_ble_eq_true rfl)
  refine ⟨rfl, ?_⟩
  have k4 : ∀ b o, b ≠ x → b ≠ dx → h3.get? b = some o → h4.get? b = some o := fun b o n1 n2 e => e4 b o (by simp only [List.mem_cons, List.not_mem_nil, or_false, not_or]; exact ⟨n1, n2⟩) e
  have z3 := And.intro (k4 _ _ (Nat.ne_of_lt (Nat.lt_trans y3 lx')) (Nat.ne_of_lt y3) x3.1) x3.2.2
  have z4 := And.intro (k4 _ _ (Nat.ne_of_lt (Nat.lt_trans y4 lx')) (Nat.ne_of_lt y4) x4.1) x4.2.2
  refine' ret x dx T1 S1 ts _ _ _ _ _ _ _ _ _ h4 tk4 (List.forall_mem_cons.mpr ⟨⟨e1, x1.2.2⟩, List.forall_mem_cons.mpr ⟨⟨e2, x2.2.2⟩, List.forall_mem_cons.mpr ⟨z4, List.forall_mem_cons.mpr ⟨z3, List.forall_mem_nil _⟩⟩⟩⟩) e3 (fun b o e => k4 b o ?_ ?_ (F3.keep b o e))
  · intro q; rw [q, x1.2.2] at e; cases e
  · intro q; rw [q, x2.2.2] at e; cases e
end
section
-- part Ex
open Sem (wp)
section
variable {prog : Program} {w : World} {A : Around} {E : Value → Shared → Prop} {R : Result → Shared → Prop} {h : Heap} {g : Array GenState} {d : Drawn} {t : Nat} {os : OsState}
variable {nm q : Str} {C N P : Addr} {bs : List Value} {hdct : Bool} {sn : List Str} {sub : List Value} {ab : Bool} {col : Option Bool} {dd : Option Addr} {k0 k1 k2 k3 k5 : Option Value}
noncomputable abbrev bmX (P : Addr) : List Value := [.ref P, .type "Exception", .type "BaseException", .type "object"]
theorem exc_check_new {M : Model} {rest : List Value} {Q : Unit → Shared → Prop} (hC : h.get? C = some (excClassObj nm q C N bs (bmX P) hdct sn sub ab col dd k0 k1 k2 k3 k5 "Exception.__new__"))
    (hq : Q () ⟨h, g, d, t, os⟩) : wpAny M A (checkBuiltinCall "Exception.__new__" ⟨.ref C :: rest, []⟩) Q E ⟨h, g, d, t, os⟩ := by
  have Fn := PySem.F.excBase_Exception
  have hcont : (Value.ref C :: bmX P).contains (.type "Exception") = true := rfl
  have hstar := Fn.noStar
  simp only [checkBuiltinCall, Fn.newKind, Fn.newSplit, Fn.newRow]
  repeat (first | refine wpAny_loadPart_at hC ?_ | (refine wpAny_isSubtype_exc hC ?_; rw [hcont]) | refine wpAny_staticBase_exc hC ?_ | refine wpAny_madeBy_exc hC ?_ | simp only [bne_self_eq_false, Bool.false_eq_true, if_false] | wp_step)
  exact hq
theorem exc_new {rest : List Value} (hC : h.get? C = some (excClassObj nm q C N bs (bmX P) hdct sn sub ab col dd k0 k1 k2 k3 k5 "Exception.__new__"))
    (hq : R (.ok (.ret (.ref (h.objs.size + 1)))) ⟨(h.push { cls := .type "tuple", data := .seq rest.toArray }).push
      { cls := .ref C, data := .fields #[.ref h.objs.size, .none, .none, .none, .bool false, .none] }, g, d, t, os⟩) (hrest : rest.length ≤ sizeLine := by size_fits) :
    codeAny (model prog w) A (.builtin "Exception.__new__" ⟨.ref C :: rest, []⟩) R ⟨h, g, d, t, os⟩ := by
  have Fn := PySem.F.excBase_Exception
  have hends := Fn.ends
  have hcB : (Value.ref C :: bmX P).contains (.type "Exception") = true := rfl
  have hcA : (Value.ref C :: bmX P).contains (.type "AttributeError") = false := rfl
  have hcN : (Value.ref C :: bmX P).contains (.type "NameError") = false := rfl
  refine codeAny_builtinAt Fn.entry ?_
  unfold Builtin.«BaseException.__new__»
  refine PySem.wpAt_bind ?_
  show PySem.wpAt _ _ _ (stack >>= _) _ _ _
  refine PySem.wpAt_bind (PySem.wpAt_stack fun p below => PySem.wpAt_of_wpAny ?_)
  wp_walk
  refine PySem.wpAt_of_wpAny ?_
  rw [Fn.owner]
  repeat (first | with_reducible refine wpAny_madeHere_exc Fn.canon hC ?_ | with_reducible refine wpAny_loadPart_at hC ?_ | (with_reducible refine wpAny_isSubtype_exc hC ?_; first | rw [hcB] | rw [hcA] | rw [hcN]) | wp_step)
  show R _ _
  rw [Heap.size_push]
  exact hq
theorem exc_make {K : Frag} {fI : Addr} {arg : Value} {Q : Value → Shared → Prop} (X : K.In h) (hC : h.get? C = some (excClassObj nm q C N bs (bmX P) hdct sn sub ab col dd k0 k1 k2 k3 k5 "Exception.__new__"))
    (hi : findIn K (.ref C) "__init__" = some (some (.ref fI))) (hf : typeIn K (.ref fI) = some (.type "function"))
    (hq : codeAny (model prog w) (A.under (.builtin "type.__call__" ⟨[.ref C, arg], []⟩)) (.call (.ref fI) ⟨[.ref (h.objs.size + 1), arg], []⟩) (fun r s' => r = .ok (.ret .none) ∧ Q (.ref (h.objs.size + 1)) s')
      ⟨(h.push { cls := .type "tuple", data := .seq #[arg] }).push { cls := .ref C, data := .fields #[.ref h.objs.size, .none, .none, .none, .bool false, .none] }, g, d, t, os⟩) :
    wpAny (model prog w) A (call (.ref C) [arg]) Q E ⟨h, g, d, t, os⟩ := by
  have Fn := PySem.F.excBase_Exception
  have f1 := tc_lookup
  have f2 := tc_bind (.ref C)
  have hT : (⟨h, g, d, t, os⟩ : Shared).TypeIs (.ref C) "type" := ⟨_, hC, rfl⟩
  have init := looks_findIn (M := model prog w) X hi
  refine wpAny_call (codeAny_of_tree ?_)
  show wpAny _ _ (callAny (.ref C) _) _ _ _
  repeat (any_goals (first | assumption | with_reducible refine wpAny_loadPart_at hC ?_ | wp_step))
  refine ⟨rfl, ?_⟩
  refine codeAny_call_builtin_at (Code.quiet_builtin _ (by decide +kernel)) entry_typeCall (wpAny_check_type_call_sub hC ?_)
  repeat (first | with_reducible refine wpAny_loadPart_at hC ?_ | with_reducible refine wpAny_madeBy_exc hC ?_ | wp_step)
  refine codeAny_call_builtin_code (Code.quiet_builtin _ Fn.quiet) (exc_check_new hC ?_)
  refine exc_new hC ?_ (by show 1 ≤ sizeLine; rw [sizeLine_eq]; decide)
  show wpAny _ _ _ _ _ _
  have k : Ext h ((h.push { cls := .type "tuple", data := .seq [arg].toArray }).push { cls := .ref C, data := .fields #[.ref h.objs.size, .none, .none, .none, .bool false, .none] }) := fun b o e => Heap.get?_push_of_some _ (Heap.get?_push_of_some _ e)
  have hC₁ := k _ _ hC
  have hget : ((h.push { cls := .type "tuple", data := .seq [arg].toArray }).push
      { cls := .ref C, data := .fields #[.ref h.objs.size, .none, .none, .none, .bool false, .none] }).get? (h.objs.size + 1) = some
      { cls := .ref C, data := .fields #[.ref h.objs.size, .none, .none, .none, .bool false, .none] } := by heap_get
  have hcC : (Value.ref C :: bmX P).contains (.ref C) = true := by simp
  unfold isInstance
  repeat (first | with_reducible refine wpAny_loadPart_at hget ?_ | (with_reducible refine wpAny_isSubtype_exc hC₁ ?_; rw [hcC]) | wp_step)
  show wpAny _ _ (isSubtype (.ref C) (.ref C)) _ _ _
  refine wpAny_isSubtype_exc hC₁ ?_
  rw [hcC, if_neg (by decide)]
  have t1 : Looks (model prog w) ((h.push { cls := .type "tuple", data := .seq [arg].toArray }).push { cls := .ref C, data := .fields #[.ref h.objs.size, .none, .none, .none, .bool false, .none] }) (typeOf (.ref (h.objs.size + 1))) (.ref C) := (Looks.ld hget).andThen .now
  refine wpAny_bind (wpAny_holding ?_)
  show wpAny _ _ (callSpecial? (.ref (h.objs.size + 1)) "__init__" [arg] []) _ _ _
  unfold callSpecial?
  refine wpAny_bind (Looks.here (t1.andThen (init.keeps k)) ?_)
  have bf := (bind_fn (M := model prog w) X (.ref (h.objs.size + 1)) hf).keeps k
  refine wpAny_holding (wpAny_bind (bf.here ?_))
  show wpAny _ _ (call (.ref fI) [.ref (h.objs.size + 1), arg] [] >>= _) _ _ _
  refine wpAny_bind (wpAny_call (codeAny_mono hq fun r s' z => ?_))
  obtain ⟨rfl, z⟩ := z
  exact wpAny_pure (wpAny_pure z)
/-- Exception.__init__(e, arg) -/
theorem exc_init {e t0 : Addr} {o : Obj} {arg : Value} {v1 v2 v3 v4 v5 : Value} {Q : Value → Shared → Prop} (hC : h.get? C = some (excClassObj nm q C N bs (bmX P) hdct sn sub ab col dd k0 k1 k2 k3 k5 "Exception.__new__"))
    (he : h.get? e = some o) (hc : o.cls = .ref C) (hd : o.data = .fields #[.ref t0, v1, v2, v3, v4, v5])
    (hq : Q .none ⟨(h.push { cls := .type "tuple", data := .seq #[arg] }).update e (Obj.mapFields (·.setIfInBounds 0 (.ref h.objs.size))), g, d, t, os⟩) :
    wpAny (model prog w) A (call (.builtin "Exception.__init__") [.ref e, arg]) Q E ⟨h, g, d, t, os⟩ := by
  have Fn := PySem.F.excBase_Exception
  have hcB : (Value.ref C :: bmX P).contains (.type "Exception") = true := rfl
  refine wpAny_call (codeAny_call_builtin Fn.init.plain Fn.initEntry ?_)
  have hshort := Fn.noStar
  have chk : ∀ {M : Model} {A : Around} {E : Value → Shared → Prop} {Q : Unit → Shared → Prop}, Q () ⟨h, g, d, t, os⟩ → wpAny M A (checkBuiltinCall "Exception.__init__" ⟨[.ref e, arg], []⟩) Q E ⟨h, g, d, t, os⟩ := fun hq => by
    simp only [checkBuiltinCall, Fn.initKind, Fn.initSplit, Fn.initRow]
    repeat (first | (with_reducible refine wpAny_loadPart_at he ?_; rw [hc]) | with_reducible refine wpAny_loadPart_at hC ?_ | (with_reducible refine wpAny_isSubtype_exc hC ?_; rw [hcB]) | wp_step)
    exact hq
  refine chk ?_
  wp_walk
  rw [hd]
  refine wpAny_pure (wpAny_pure ?_)
  have he' := Heap.get?_push_of_some { cls := .type "tuple", data := .seq #[arg] } he
  show wpAny _ _ (setField (.ref e) 0 (.ref h.objs.size) >>= fun _ => letGo [.ref t0]) _ _ _
  refine wpAny_bind (wpAny_setField he' hd (by simp) (wpAny_letGo ?_))
  wp_walk
  exact hq
end
/-- an exception class of the program's, one own class above it -/
def IsExc (h : Heap) (C P : Addr) : Prop := ∃ nm q N bs hdct sn sub ab col dd k0 k1 k2 k3 k5, h.get? C = some (excClassObj nm q C N bs (bmX P) hdct sn sub ab col dd k0 k1 k2 k3 k5 "Exception.__new__")
theorem IsExc.keeps {h h' : Heap} {C P : Addr} (x : IsExc h C P) (k : Ext h h') : IsExc h' C P := by
  obtain ⟨nm, q, N, bs, hdct, sn, sub, ab, col, dd, k0, k1, k2, k3, k5, e⟩ := x
  exact ⟨nm, q, N, bs, hdct, sn, sub, ab, col, dd, k0, k1, k2, k3, k5, k _ _ e⟩
section
variable {M : Model} {A : Around} {E : Value → Shared → Prop} {s : Shared} {env : Env} {C P : Addr}
theorem raise_exc {x : Sem Value} {Q : Flow → Shared → Prop} (hh : A.handled = none)
    (h : wpAny M A x (fun v s₁ => Halt (∃ e t1 dx, v = .ref e ∧ IsExc s₁.heap C P ∧ s₁.heap.get? e = some { cls := .ref C, dict := dx, data := .fields #[.ref t1, .none, .none, .none, .bool false, .none] } ∧ E (.ref e) s₁)) E s) :
    wpAny M A (raiseStmt env (some x) none) Q E s := by
  have hcB : (Value.ref C :: bmX P).contains (.type "BaseException") = true := rfl
  unfold raiseStmt
  refine wpAny_bind (wpAny_mono h (fun v s₁ h₁ => ?_) fun _ _ x => x)
  obtain ⟨e, t1, dx, rfl, ⟨nm, q, N, bs, hdct, sn, sub, ab, col, dd, k0, k1, k2, k3, k5, hC⟩, he, hE⟩ := h₁
  obtain ⟨hp, g, d, tk, os⟩ := s₁
  repeat (first | with_reducible refine wpAny_loadPart_at he ?_ | with_reducible refine wpAny_loadPart_at hC ?_ | (with_reducible refine wpAny_isSubtype_exc hC ?_; rw [hcB]) | wp_step)
  exact wpAny_raiseNew_none hh hE
end
/-- a name is set on an exception that has no dict yet -/
theorem set_exc {K : Frag} {prog : Program} {w : World} {A : Around} {E : Value → Shared → Prop} {s : Shared} {C P x : Addr} {ox : Obj} {vs : Array Value} {name : Str} {v : Value} {cd : ClassData} {Q : Unit → Shared → Prop} (X : K.In s.heap)
    (hx : s.heap.get? x = some ox) (hc : ox.cls = .ref C) (hd : ox.data = .fields vs) (hdn : ox.dict = none) (hcl : clsIn K C = some cd) (hm : cd.mro = [.ref C, .ref P, .type "Exception", .type "BaseException", .type "object"]) (hh : cd.hasDict = true)
    (hs : findIn K (.ref C) "__setattr__" = some (some (.builtin "object.__setattr__"))) (ht : findIn K (.ref C) name = some none)
    (h : ∀ h' dx tk, Exo [x] s.heap h' → h'.get? x = some { ox with dict := some dx } → Q () { s with heap := h', toks := tk }) :
    wpAny (model prog w) A (setAttr (.ref x) name v) Q E s := by
  obtain ⟨hp, g, d, tk, os⟩ := s
  dsimp only at X hx h
  have I : InstAt hp x ox C none := ⟨hx, hc, by unfold notCls; rw [hd], by rw [hdn]; trivial⟩
  have SF := PySem.F.store_object
  refine set_plain X I hs ?_
  have sub : Looks (model prog w) hp (isInstance (.ref x) (.type "object")) true := I.type.andThen (looks_mroIn X (by unfold mroIn; rw [hcl, Option.bind_some, hm]; rfl))
  refine codeAny_call_builtin SF.slot.plain SF.entry (@check_slot (model prog w) _ _ _ "object.__setattr__" "object" "__setattr__" (.ref x) [.str name tk, v] [] _ SF.kind SF.split sub (SF.args (.ref x) (.str name tk) v) ?_)
  have L : Looks (model prog w) hp (mroOf (.ref C)) cd.mro := (looks_clsIn X hcl).andThen .now
  rw [osa_eq, refuse_eq]
  refine wpAny_bind (wpAny_bind (I.type.here (wpAny_bind (L.here ?_))))
  rw [hm, refuseLoop_ref, refuseLoop_ref, PySem.F.store_Exception.passes]
  refine wpAny_pure (wpAny_bind (I.type.here (wpAny_bind ((looks_findIn X ht).here (wpAny_bind (wpAny_pure ?_))))))
  dsimp only
  obtain ⟨oc, odi, oda, osl⟩ := ox
  dsimp only at hc hd hdn
  subst hc hd hdn
  refine wpAny_bind (wpAny_pure (wpAny_bind (wpAny_bind (wpAny_loadPart hx (wpAny_bind ((looks_clsIn X hcl).here ?_))))))
  rw [hh]
  refine bm_if_false rfl ?_
  refine bm_if_false rfl ?_
  have hx₁ : (hp.push { cls := .type "dict", data := .dict #[] }).get? x = some { cls := .ref C, dict := none, data := .fields vs, slots := osl } := Heap.get?_push_of_some _ hx
  have hxs : x ≠ hp.objs.size := Nat.ne_of_lt (Heap.lt_size hx)
  refine wpAny_bind (wpAny_alloc' ?_)
  refine wpAny_bind (wpAny_update' hx₁ ?_)
  refine wpAny_pure ?_
  have hgd : ((hp.push { cls := .type "dict", data := .dict #[] }).update x fun o => { cls := o.cls, dict := some hp.objs.size, data := o.data, slots := o.slots }).get? hp.objs.size
      = some { cls := .type "dict", data := .dict #[] } :=
    (Heap.get?_update_ne _ _ _ _ hxs.symm).trans (Heap.get?_push_at rfl rfl)
  have hnd : ((hp.push { cls := .type "dict", data := .dict #[] }).update x fun o => { cls := o.cls, dict := some hp.objs.size, data := o.data, slots := o.slots }).Ns hp.objs.size (fun _ => none) :=
    ⟨_, #[], _, hgd, rfl, fun e he => absurd he (by simp), fun _ => rfl⟩
  show wpAny _ _ (Builtin.ObjectAttr.storeInDict hp.objs.size (.str name tk) name v) _ _ _
  unfold Builtin.ObjectAttr.storeInDict Builtin.ObjectAttr.newKeyGuard
  refine wpAny_bind (wpAny_pure (wpAny_bind (wpAny_nsSet1 (Heap.Ns1.of_empty hnd) fun h' hn' hs => ?_)))
  obtain ⟨oD, esD, epD, hoD, hdD, hcD⟩ := hn'.count (Within.cons name v Within.nil)
  refine wpAny_bind (wpAny_lookBehind hoD (by rw [hdD]; exact pastItsLine_dict (Nat.le_trans hcD (by rw [List.length_cons, List.length_nil, sizeLine_eq]; omega))) ?_)
  refine wpAny_pure ?_
  refine h h' hp.objs.size _ (fun q o n e => ?_) ?_
  · exact (hs.2 q (Nat.ne_of_lt (Heap.lt_size e))).trans ((Heap.get?_update_ne _ _ _ _ (fun z => n (List.mem_singleton.mpr z))).trans (Heap.get?_push_of_some _ e))
  · exact (hs.2 x hxs).trans (Heap.get?_update_self _ hx₁ rfl)
end
section
-- part Rd
open PyProof.V PySem.Spec PySem.SeqAt
noncomputable def plainD (size birth chain v0 v1 v2 : Int) : PyData := .tuple [.tuple [.tuple [.int v0, .int v1, .int v2]], .int 11, .int 0, .int size, .int size, .int 0, .int 0, .int birth, .int chain, .tuple [.int 0, .int 0, .int 0, .int 0], .int 0]
theorem reads_plain {h : Heap} {D T S pl : Addr} {size birth chain v0 v1 v2 : Int} {j0 j1 j2 j3 j4 j5 j6 j7 j8 s0 s1 s2 s3 u0 u1 u2 : Tok}
    (hD : h.get? D = some { cls := .type "tuple", data := .seq #[.ref T, .int 11 j0, .int 0 j1, .int size j2, .int size j3, .int 0 j4, .int 0 j5, .int birth j6, .int chain j7, .ref S, .int 0 j8] })
    (hT : h.get? T = some (tup1 pl)) (hS : h.get? S = some (tup4 0 s0 0 s1 0 s2 0 s3)) (hp : h.get? pl = some (tup3 v0 u0 v1 u1 v2 u2)) : Reads h (.ref D) (plainD size birth chain v0 v1 v2) [] := by
  have c0 : ∀ {h v vs d ds}, Reads h v d [] → ReadsAll h vs ds [] → ReadsAll h (v :: vs) (d :: ds) [] := fun a b => ReadsAll.cons a b
  have r0 : Reads h (.ref pl) (.tuple [.int v0, .int v1, .int v2]) [] := .tuple hp rfl rfl (c0 (.int _ _) (c0 (.int _ _) (c0 (.int _ _) .nil)))
  have r1 : Reads h (.ref T) (.tuple [.tuple [.int v0, .int v1, .int v2]]) [] := .tuple hT rfl rfl (c0 r0 .nil)
  have r2 : Reads h (.ref S) (.tuple [.int 0, .int 0, .int 0, .int 0]) [] := .tuple hS rfl rfl (c0 (.int _ _) (c0 (.int _ _) (c0 (.int _ _) (c0 (.int _ _) .nil))))
  exact .tuple hD rfl rfl (c0 r1 (c0 (.int _ _) (c0 (.int _ _) (c0 (.int _ _) (c0 (.int _ _) (c0 (.int _ _) (c0 (.int _ _) (c0 (.int _ _) (c0 (.int _ _) (c0 r2 (c0 (.int _ _) .nil)))))))))))
theorem shaped_plain {size birth chain v0 v1 v2 : Int} : shaped (plainD size birth chain v0 v1 v2) = true := by
  unfold plainD shaped
  simp [PyData.canLay0, PyData.canLayAll0, PyData.depth, PyData.depthAll]
theorem noMix_plain {size birth chain v0 v1 v2 : Int} : noMix (plainD size birth chain v0 v1 v2) (plainD size birth chain v0 v1 v2) = true := by
  unfold plainD
  simp [noMix, noMixAll]
theorem eq_plain {prog : Program} {w : World} {A : Around} {E Q : Value → Shared → Prop} {s : Shared} {a b : Addr} {size birth chain v0 v1 v2 : Int} (ra : Reads s.heap (.ref a) (plainD size birth chain v0 v1 v2) []) (rb : Reads s.heap (.ref b) (plainD size birth chain v0 v1 v2) []) (hu : A.units + 64 < cLine)
    (h : Q (.bool true) s) : wpAny (model prog w) A (compareOp .Eq (.ref a) (.ref b)) Q E s :=
  eq_dataH_same ra rb shaped_plain shaped_plain hu noMix_plain (by rw [PySem.Spec.same_self]; exact h)
end
section
-- part P22
local macro_rules | `(tactic| walk_at "getMethod type:Exception") => `(tactic| (k_here; refine' method_type ?F ?X ?m (by decide +kernel) ?e ?h ?_; (case F => k_asm); (case X => k_asm); (case m => kernel_rfl); (case e => k_dflt k_is); (case h => k_handed)))
local macro_rules | `(tactic| walk_at "call builtin:Exception.__init__") => `(tactic| refine Halt.mk ?_)
local macro_rules | `(tactic| walk_at "exec Raise some none") => `(tactic| refine Halt.mk ?_)
local macro_rules | `(tactic| walk_at "setAttr ref") => `(tactic| refine Halt.mk ?_)
noncomputable abbrev excObj (t0 : Addr) (dd : Option Addr) : Obj := { cls := .ref 56, dict := dd, data := .fields #[.ref t0, .none, .none, .none, .bool false, .none] }
theorem with_cls {K : Frag} {X : Prop} {nm q : Str} {bs : List Value} {hh : Bool} {sn : List Str} {sub : List Value} {ab : Bool} {col : Option Bool} {dd : Option Addr} {k0 k1 k2 k3 k5 : Option Value}
    (e : K.lookup 56 = some (excClassObj nm q 56 55 bs (bmX 31) hh sn sub ab col dd k0 k1 k2 k3 k5 "Exception.__new__")) (h : K.lookup 56 = some (excClassObj nm q 56 55 bs (bmX 31) hh sn sub ab col dd k0 k1 k2 k3 k5 "Exception.__new__") → X) : X := h e
set_option maxHeartbeats 4000000 in
theorem fault_init_spec {w : World} {fr : Option (List Env)} {s : Shared} {R : Result → Shared → Prop} {e t0 : Addr} {m : Str} {tm : Tok}
    (he : s.heap.get? e = some (excObj t0 none)) (G : Gd w (hideAll s.heap [e]))
    (ret : ∀ h' tk t1 dx, Exo [e] s.heap h' → h'.get? e = some (excObj t1 (some dx)) → R (.ok (.ret .none)) { s with heap := h', toks := tk }) :
    codeAny (model PySem.Challenge.rw_pb0583_01.row.prog w) (LvA 700 fr) (.call (.ref 28) ⟨[.ref e, .str m tm], []⟩) R s := by
  obtain ⟨X, p, loose, mean, mg, mb, T⟩ := G
  revert X; k_fill; intro X
  refine' enterF (mu := [(e, excObj t0 none)]) (fs := [e]) (binds := [("self", .ref e), ("why", .str m tm)]) ?k0 rfl ?k1 ?k2 ?k3 ?k4 ?k5 ?k6 ?k7 ?_ ?c2 ?c3 ?c4 ?c5
  case k0 => exact List.forall_mem_cons.mpr ⟨he, List.forall_mem_nil _⟩
  (k_dflt ((case k1 => k_asm); (case k2 => k_asm); (case k3 => k_is); (case k4 => k_is); (case k5 => exact Nat.le_of_ble_eq_true rfl); (case k6 => first | exact BindsTo.of_eq rfl | exact binds_K (by k_in) rfl (by k_is) rfl rfl rfl); (case k7 => exact locs rfl); (case c2 => exact rfl); (case c3 => exact rfl); (case c4 => exact rfl); (case c5 => decide)))
  intro L' h' F' N' l'
  clear l'
  generalize hg : hideAll s.heap [e] = g at X T F' N'
  refine wpAny_mono (E := fun _ _ => False) (Q := fun fl s' => fl = .next ∧ Halt (R (.ok (.ret .none)) s')) ?_ (fun fl s' q => by rw [q.1]; exact q.2) (fun _ _ q => q.elim)
  k_steps
  refine' with_cls (K := hd.heap_1 w.params) ?e fun hC => ?_
  case e => k_is
  have hC2 : ∃ cd, clsIn (hd.heap_1 w.params) 56 = some cd ∧ cd.mro = [.ref 56, .ref 31, .type "Exception", .type "BaseException", .type "object"] ∧ cd.hasDict = true := ⟨_, by unfold clsIn; rw [hC], rfl, rfl⟩
  obtain ⟨cd, c1, c2, c3⟩ := hC2
  have ye := N' _ List.mem_cons_self
  dsimp only at ye
  refine Halt.go (exc_init (X.keeps F'.keep _ _ hC) ye.1 rfl rfl ?_)
  have gt : (h'.push { cls := .type "tuple", data := .seq #[.str m tm] }).get? e = some (excObj t0 none) := Heap.get?_push_of_some _ ye.1
  have ge : ((h'.push { cls := .type "tuple", data := .seq #[.str m tm] }).update e (Obj.mapFields (·.setIfInBounds 0 (.ref h'.objs.size)))).get? e = some (excObj h'.objs.size none) := Heap.get?_update_self _ gt rfl
  have ex : Exo [e] h' ((h'.push { cls := .type "tuple", data := .seq #[.str m tm] }).update e (Obj.mapFields (·.setIfInBounds 0 (.ref h'.objs.size)))) := fun q o n y =>
    (Heap.get?_update_other _ _ (fun z => n (by simp [z]))).trans (Heap.get?_push_of_some _ y)
  have F2 := fr_exo F' ex (fun q hq => by rw [List.mem_singleton.mp hq]; exact ⟨ye.2.2, ye.2.1⟩)
  have N2 : News g L' _ [(e, excObj h'.objs.size none)] := List.forall_mem_cons.mpr ⟨⟨ge, ye.2⟩, List.forall_mem_nil _⟩
  generalize (h'.push { cls := .type "tuple", data := .seq #[.str m tm] }).update e (Obj.mapFields (·.setIfInBounds 0 (.ref h'.objs.size))) = h2 at F2 N2 ex ⊢
  generalize h'.objs.size = t1 at N2
  clear ge gt ye F' N'
  k_steps
  rename Fr _ _ _ _ => FA
  rename News _ _ _ _ => NA
  have ye := NA _ List.mem_cons_self
  dsimp only at ye
  refine Halt.go (set_exc (X.keeps FA.keep) ye.1 rfl rfl rfl c1 c2 c3 (by k_is) (by k_is) fun h3 dx tk3 e3 g3 => ?_)
  dsimp only
  k_steps
  subst hg
  exact Halt.go (ret h3 tk3 t1 dx (fun q o n y => e3 q o n (FA.keep q o (hideAll_get _ y n))) g3)
/-- what a frame's raise leaves -/
def Flew (s : Shared) (outer : List Env) (e : Value) (s' : Shared) : Prop :=
  ∃ ea a0 h' tk, e = .ref ea ∧ s' = { s with heap := h', toks := tk } ∧ Heap.FlyingW (hideAll s.heap (outer.filterMap (·.frame))) outer ea (.ref 56) a0 h' ∧ s.heap.UpToSlots h'
set_option maxHeartbeats 4000000 in
theorem padded_raises {w : World} {outer : List Env} {s : Shared} {Q E : Value → Shared → Prop} {b : Array UInt8} {t tn : Tok} {n : Int}
    (G : Gd w s.heap) (K : s.heap.FunFrames (hideAll s.heap (outer.filterMap (·.frame))) outer) (hb : n < (b.size : Int)) (hn : b.size ≤ 1000)
    (fly : ∀ e s', Flew s outer e s' → E e s') :
    wpAny (model PySem.Challenge.rw_pb0583_01.row.prog w) (LvA 600 (some outer)) (call (.ref 184) [.bytes b t, .int n tn]) Q E s := by
  obtain ⟨X, p, loose, mean, mg, mb, T⟩ := G
  revert X; k_fill; intro X
  refine wpAny_call ?_
  refine' enterP (binds := [("octets", .bytes b t), ("size", .int n tn)]) ?k1 ?k2 ?k3 ?k4 ?k5 ?k6 ?k7 ?_ ?c2 ?c3 ?c4 ?c5
  (k_dflt ((case k1 => k_asm); (case k2 => k_asm); (case k3 => k_is); (case k4 => k_is); (case k5 => exact Nat.le_of_ble_eq_true rfl); (case k6 => first | exact BindsTo.of_eq rfl | exact binds_K (by k_in) rfl (by k_is) rfl rfl rfl); (case k7 => exact locs rfl); (case c2 => exact rfl); (case c3 => exact rfl); (case c4 => exact rfl); (case c5 => decide)))
  intro L' h' F' N'
  refine wpAny_mono (Q := fun _ _ => False) (E := fun e s' => Halt (∃ ea h2 tk t1 dx, e = .ref ea ∧ s' = { s with heap := h2, toks := tk } ∧ Ext h' h2 ∧ h'.get? ea = none ∧ h2.get? ea = some (excObj t1 (some dx)))) ?_ (fun _ _ q => q.elim) ?_
  · k_steps
    refine Halt.go ?_
    rw [arm_exec_Raise]
    refine' with_cls (K := hd.heap_1 w.params) ?e fun hC => ?_
    case e => k_is
    refine wpAny_bind (wpAny_standAt (raise_exc (C := 56) (P := 31) (by rfl) (wpAny_bind (wpAny_mono ?_ (fun v s₃ h₃ => wpAny_bind (wpAny_standAt (wpAny_pure h₃))) fun _ _ x => x))))
    k_steps
    have ltS : ∀ {q o}, h'.get? q = some o → @LT.lt Nat _ q h'.objs.size := fun y => Heap.lt_size y
    have kp : Ext h' ((h'.push { cls := .type "tuple", data := .seq #[.str (Str.ofString "more octets than there is room for") tk] }).push (excObj h'.objs.size none)) := fun q o y => Heap.get?_push_of_some _ (Heap.get?_push_of_some _ y)
    have sz : (h'.push { cls := .type "tuple", data := .seq #[.str (Str.ofString "more octets than there is room for") tk] }).objs.size = h'.objs.size + 1 := Heap.size_push ..
    have ge : ((h'.push { cls := .type "tuple", data := .seq #[.str (Str.ofString "more octets than there is room for") tk] }).push (excObj h'.objs.size none)).get? (h'.objs.size + 1) = some (excObj h'.objs.size none) := by
      rw [← sz]; exact Heap.get?_push_size _ rfl
    refine Halt.go (exc_make (X.keeps F'.keep) (X.keeps F'.keep _ _ hC) (by k_is) (by k_is) ?_)
    refine codeAny_up (A' := LvA 700 _) (fault_init_spec (e := h'.objs.size + 1) (t0 := h'.objs.size) ge (Gd.keeps ⟨X, p, loose, mean, mg, mb, T⟩ fun q o y => hideAll_get _ (kp q o (F'.keep q o y)) fun z => ?_) fun h2 tk2 t1 dx e1 e2 => ?_) rfl (Nat.le_of_ble_eq_true rfl) rfl rfl (Nat.le_of_ble_eq_true rfl)
    · have := ltS (F'.keep q o y)
      rw [List.mem_singleton.mp z] at this
      exact absurd this (by show ¬ (h'.objs.size + 1 < h'.objs.size); omega)
    · have kx : Ext h' h2 := fun q o y => e1 q o (fun z => by have := ltS y; rw [List.mem_singleton.mp z] at this; exact absurd this (by show ¬ (h'.objs.size + 1 < h'.objs.size); omega)) (kp q o y)
      exact ⟨rfl, Halt.go ⟨_, t1, some dx, rfl, IsExc.keeps ⟨_, _, _, _, _, _, _, _, _, _, _, _, _, _, _, X.keeps F'.keep _ _ hC⟩ kx, e2, Halt.go ⟨_, h2, tk2, t1, dx, rfl, rfl, kx, Heap.get?_none_of_le (Nat.le_succ _), e2⟩⟩⟩
  · rintro e s' ⟨ea, h2, tk, t1, dx, rfl, rfl, kx, e0, e2⟩
    have B : Below (LvA 600 (some outer)) (hideAll s.heap (outer.filterMap (·.frame))) outer s.heap := ⟨rfl, fun q o y => of_hideAll _ y, K⟩
    have st : Ext s.heap h2 := fun q o y => kx q o (F'.keep q o y)
    refine wpAny_leaving_firstW (base := hideAll s.heap (outer.filterMap (·.frame))) (L := L') (oe := excObj t1 (some dx)) (a0 := .ref t1) (Below.stack (B.push F')) ((Below.frames (B.push F')).of_keeps fun b o y _ => ⟨o, kx b o y, rfl⟩) rfl e2 (fun q o y => st q o (of_hideAll _ y)) ?_ rfl rfl rfl fun h3 hL => ?_
    · cases z : (hideAll s.heap (outer.filterMap (·.frame))).get? ea with
      | none => rfl
      | some o => have := F'.keep _ _ (of_hideAll _ z); rw [e0] at this; cases this
    · obtain ⟨k1, ⟨_, _, k2⟩, k3, k4⟩ := hL
      refine fly _ _ ⟨ea, .ref t1, h3, tk, rfl, rfl, ⟨k1, ?_, k2, k3⟩, (Heap.UpToSlots.of_keeps st).trans k4⟩
      cases z : (hideAll s.heap (outer.filterMap (·.frame))).get? ea with
      | none => rfl
      | some o => have := F'.keep _ _ (of_hideAll _ z); rw [e0] at this; cases this
end
section
-- part Pd
theorem enterPPC {w : World} {A : Around} {s : Shared} {K : Frag} {R : Result → Shared → Prop} {p : Program} {loose : List Str} {mean : ExcName → Option Value} {mg mb : Str → Option Value}
    {name qual : Str} {params : Arguments} {body : List Stmt} {scope : Scope} {dV kV doc pm cdv ct oc : Value} {an od : Option Addr} {osl : Array (Option Value)} {f : Addr} {args : Args} {binds : List (Str × Value)}
    (X : K.In s.heap) (T : Top p loose mean mg mb s.heap)
    (ho : K.lookup f = some ⟨oc, od, .func (fnOf name qual params body scope dV kV doc pm an cdv ct), osl⟩) (hcd : codeIn K cdv qual = true) (hroom : A.depth < recursionLimit)
    (hbind : BindsTo s (fnOf name qual params body scope dV kV doc pm an cdv ct) args binds)
    (hkind : (binds.all fun y => scope.names.lookup y.1 == some .local || scope.names.lookup y.1 == some .cell) = true)
    (hnd : ((cellsFrom 0 scope.names []).map (·.1)).Nodup)
    {mL mC : Str → Option Value} (hmL : bindL (fun y => scope.names.lookup y) binds (fun _ => none) = mL) (hmC : bindC (fun y => scope.names.lookup y) binds (fun _ => none) = mC)
    (h : ∀ L' h₁ tk cells, L' = s.heap.objs.size → Fr s.heap L' h₁ mL → News s.heap L' h₁ cells → CellsAre mC (cellsFrom (L' + 1) scope.names []) cells →
      wpP (model PySem.Challenge.rw_pb0583_01.row.prog w) (A.deeper (envOfC qual scope L' f cdv)) (execs body (envOfC qual scope L' f cdv))
        (fun fl s' => R (.ok (.ret (match fl with | .ret v => v | _ => .none))) s')
        (fun e s' => wpAny (model PySem.Challenge.rw_pb0583_01.row.prog w) (A.deeper (envOfC qual scope L' f cdv)) (leaving (envOfC qual scope L' f cdv) e) (fun _ s'' => R (.error e) s'') (fun e' s'' => R (.error e') s'') s')
        { s with heap := h₁, toks := tk })
    (hco : scope.isCoroutine = false := by rfl) (hgen : scope.isGenerator = false := by rfl) (hk : scope.kind = .function := by rfl) : codeP (model PySem.Challenge.rw_pb0583_01.row.prog w) A (.call (.ref f) args) R s := by
  refine codeP.fn (fd := fnOf name qual params body scope dV kV doc pm an cdv ct) (body := body) hroom (X _ _ ho) rfl hco hgen rfl (codeRec_of X hcd) (hbind _ _ _ _ ?_)
  refine wpAny_newFunctionEnv_cells hk (kindsX hkind _) fun env' he s' x => ?_
  subst he
  refine ⟨T.nolimit.keeps x.toInCall.keep, codeP.func ?_⟩
  obtain ⟨h₁, tk, rfl, _⟩ := x.done
  have hk₁ := x.toInCall.keep
  obtain ⟨cells, NC, Y⟩ := Cl.news (h₀ := s.heap) (Nat.le_refl _) fun n c hm => ⟨x.cell n c (lookup_of_mem_nodup (cellsFrom_names scope.names 0 (s.heap.objs.size + 1) [] [] rfl ▸ hnd) hm), x.above n c hm⟩
  subst hmL hmC
  exact h s.heap.objs.size h₁ tk cells rfl ⟨x.toInCall.ns, hk₁, Nat.le_refl _⟩ NC Y
end
section
-- part N6
local macro_rules | `(tactic| walk_at "pyIter ref") => `(tactic| refine Halt.mk ?_)
local macro_rules | `(tactic| walk_at "exec For Name Call cons nil") => `(tactic| refine Halt.mk ?_)
theorem map5 {m : Str → Option Value} {x1 x2 x3 x4 x5 : Str} {v1 v2 v3 v4 v5 : Value} (h1 : m x1 = some v1) (h2 : m x2 = some v2) (h3 : m x3 = some v3) (h4 : m x4 = some v4) (h5 : m x5 = some v5) :
    ∃ m' : Str → Option Value, m = fun y => if y = x1 then some v1 else if y = x2 then some v2 else if y = x3 then some v3 else if y = x4 then some v4 else if y = x5 then some v5 else m' y := by
  refine ⟨m, ?_⟩
  funext y
  split
  · subst_vars; exact h1
  split
  · subst_vars; exact h2
  split
  · subst_vars; exact h3
  split
  · subst_vars; exact h4
  split
  · subst_vars; exact h5
  rfl
theorem slice4b (ks : List Int) (i : Nat) : List.take (min (0 + (i : Int) * 4 + 4).toNat ks.length - (0 + (i : Int) * 4).toNat) (List.drop (0 + (i : Int) * 4).toNat ks) = (ks.drop (4 * i)).take 4 := by
  rw [show (0 + (i : Int) * 4 + 4).toNat = 4 * i + 4 by omega, show (0 + (i : Int) * 4).toNat = 4 * i by omega]
  by_cases h4 : 4 * i + 4 ≤ ks.length
  · rw [Nat.min_eq_left h4, show 4 * i + 4 - 4 * i = 4 by omega]
  · rw [Nat.min_eq_right (by omega), List.take_of_length_le (by rw [List.length_drop]; exact Nat.le_refl _), List.take_of_length_le (by rw [List.length_drop]; omega)]
theorem words_at {n i : Nat} {ks : List Int} (h : i < n) : (words n ks)[i]? = some (lev ((ks.drop (4 * i)).take 4)) := by
  rw [words_get, List.getElem?_map, List.getElem?_range h]; rfl
theorem step4_f (a b c d v : Int) : step4 (a, b, c, d) v = ((a + v).fmod (2 ^ 32), (b + (a + v).fmod (2 ^ 32)).fmod (2 ^ 32), (c + (b + (a + v).fmod (2 ^ 32)).fmod (2 ^ 32)).fmod (2 ^ 32), (d + (c + (b + (a + v).fmod (2 ^ 32)).fmod (2 ^ 32)).fmod (2 ^ 32)).fmod (2 ^ 32)) := by
  have e : ∀ y : Int, y.fmod (2 ^ 32) = y % M32 := fun y => Int.fmod_eq_emod_of_nonneg _ (by decide)
  simp only [e]; rfl
set_option maxHeartbeats 4000000 in
theorem law_sum_spec {w : World} {fr : Option (List Env)} {s : Shared} {Q E : Value → Shared → Prop} {l : Addr} {vs : List Value} {nl : Nat} {ks : List Int}
    (hl : s.heap.get? l = some (W.listOf vs.toArray nl)) (G : Gd w (hideAll s.heap [l])) (hi : IntsAre vs ks) (hk : Oct ks) (hn : ks.length ≤ 100)
    (ret : ∀ D ys n h' tk, IntsAre ys (sumInts ks) → s.heap.get? D = none → h'.get? D = some (W.listOf ys.toArray n) → Ext s.heap h' → Q (.ref D) { s with heap := h', toks := tk }) :
    wpAny (model PySem.Challenge.rw_pb0583_01.row.prog w) (LvA 550 fr) (call (.ref 318) [.ref l]) Q E s := by
  obtain ⟨X, p, loose, mean, mg, mb, T⟩ := G
  revert X; k_fill; intro X
  refine wpAny_call ?_
  refine' enterF (mu := [(l, W.listOf vs.toArray nl)]) (fs := [l]) (binds := [("octets", .ref l)]) ?k0 rfl ?k1 ?k2 ?k3 ?k4 ?k5 ?k6 ?k7 ?_ ?c2 ?c3 ?c4 ?c5
  case k0 => exact List.forall_mem_cons.mpr ⟨hl, List.forall_mem_nil _⟩
  (k_dflt ((case k1 => k_asm); (case k2 => k_asm); (case k3 => k_is); (case k4 => k_is); (case k5 => exact Nat.le_of_ble_eq_true rfl); (case k6 => first | exact BindsTo.of_eq rfl | exact binds_K (by k_in) rfl (by k_is) rfl rfl rfl); (case k7 => exact locs rfl); (case c2 => exact rfl); (case c3 => exact rfl); (case c4 => exact rfl); (case c5 => decide)))
  intro L' h' F' N' l'
  clear l'
  generalize hg : hideAll s.heap [l] = g at X T F' N'
  have hvl : vs.length = ks.length := hi.length
  refine wpAny_mono (E := fun _ _ => False) (Q := fun fl s' => Halt (∃ D ys n h' tk, fl = .ret (.ref D) ∧ IntsAre ys (sumInts ks) ∧ s.heap.get? D = none ∧ h'.get? D = some (W.listOf ys.toArray n) ∧ Ext s.heap h' ∧ s' = { s with heap := h', toks := tk })) ?_ (fun fl s' q => by obtain ⟨D, ys, n, h', tk, rfl, e1, e2, e3, e4, rfl⟩ := q; exact ret D ys n h' tk e1 e2 e3 e4) (fun _ _ q => q.elim)
  refine opqA fun QQ hQQ => ?_
  k_steps
  refine Halt.go (wpAny_For ?_)
  k_steps
  rename IsRange _ _ _ _ _ _ _ _ => hr
  rename Fr _ _ _ _ => FA
  rename News _ _ _ _ => NA
  have NB : News g L' _ [(l, W.listOf vs.toArray nl)] := fun q hq => NA q (List.mem_cons_of_mem _ hq)
  refine Halt.go (for_range (n := (ks.length + 3) / 4) (led := [(l, W.listOf vs.toArray nl)]) (fun i m' l' => l' = [(l, W.listOf vs.toArray nl)] ∧ ∃ a b c d t1 t2 t3 t4, List.foldl step4 (0, 0, 0, 0) ((words ((ks.length + 3) / 4) ks).take i) = (a, b, c, d) ∧
    m' (Str.ofString "one") = some (.int a t1) ∧ m' (Str.ofString "two") = some (.int b t2) ∧ m' (Str.ofString "three") = some (.int c t3) ∧ m' (Str.ofString "four") = some (.int d t4) ∧ m' (Str.ofString "octets") = some (.ref l)) (fun i m' l' h => by rw [h.1]) rfl rfl rfl FA NB hr (small4 (by omega)) (rangeSize4 ks.length)
    ⟨rfl, 0, 0, 0, 0, _, _, _, _, rfl, rfl, rfl, rfl, rfl, rfl⟩ ?turn ?done)
  case turn =>
    rintro i m' l' h1 tk1 I tI hi' ⟨rfl, a, b, c, d, t1, t2, t3, t4, hf, e1, e2, e3, e4, e5⟩ lI F1 N1
    obtain ⟨m'', rfl⟩ := map5 e1 e2 e3 e4 e5
    have lI1 := lI _ List.mem_cons_self
    dsimp only at lI1
    clear e1 e2 e3 e4 e5 FA NA NB hr lI
    refine halt_post ?_
    refine opqA fun QT hQT => ?_
    k_steps
    rename IntsAre _ _ => hI
    rename Fr _ _ _ _ => FA
    rename News _ _ _ _ => NA
    rw [slice4b] at hI
    have nD := NA _ List.mem_cons_self
    refine Halt.go (atLv (d := 600) (law_value_spec ⟨X.keeps FA.keep, p, loose, mean, mg, mb, T.keeps FA.keep⟩ ⟨_, nD.1, rfl, _, rfl⟩ hI (fun k z => hk k (List.mem_of_mem_drop (List.mem_of_mem_take z))) (Nat.le_trans (take4_le ks i) (by decide)) fun v tv h2 tk2 hv k2 => ?_))
    have F2 := fr_ext FA k2
    have N2 : News g L' h2 _ := fun q hq => ⟨k2 _ _ (NA q hq).1, (NA q hq).2⟩
    clear FA NA k2 nD
    k_steps
    rename Fr _ _ _ _ => FA
    rename News _ _ _ _ => NA
    subst hQT
    refine Halt.go ⟨_, _, _, _, rfl, rfl, FA, fun q hq => NA q (List.mem_cons_of_mem _ hq), rfl, _, _, _, _, _, _, _, _, ?_, rfl, rfl, rfl, rfl, rfl⟩
    rw [List.take_add_one, words_at hi', List.foldl_append, hf, ← hv]
    exact step4_f a b c d v
  case done =>
    rintro m' l' h1 tk1 ⟨rfl, a, b, c, d, t1, t2, t3, t4, hf, e1, e2, e3, e4, e5⟩ F1 N1
    obtain ⟨m'', rfl⟩ := map5 e1 e2 e3 e4 e5
    clear e1 e2 e3 e4 e5 FA NA NB hr
    rw [List.take_of_length_le (by rw [words_length]; exact Nat.le_refl _), run_sums] at hf
    obtain ⟨f1, hf⟩ := Prod.mk.inj hf
    obtain ⟨f2, hf⟩ := Prod.mk.inj hf
    obtain ⟨f3, f4⟩ := Prod.mk.inj hf
    clear hf
    have bd : ∀ y z : Int, y % M32 = z → 0 ≤ z ∧ z < 2 ^ 40 := fun y z e => by
      have h1 := Int.emod_nonneg y (show M32 ≠ 0 by decide)
      have h2 := Int.emod_lt_of_pos y (show 0 < M32 by decide)
      rw [e] at h1 h2
      exact ⟨h1, Int.lt_trans h2 (by decide)⟩
    dsimp only
    k_steps
    refine Halt.go (atLv (d := 600) (law_digits_spec (n := 4) ⟨X.keeps F1.keep, p, loose, mean, mg, mb, T.keeps F1.keep⟩ (by decide) (bd _ _ f1).1 (bd _ _ f1).2 fun D1 ys1 hd1 tkd1 hi1 hD1 hD1' kd1 => ?_))
    have G1 := fr_ext F1 kd1
    have M1 := news_add F1 N1 kd1 hD1 hD1'
    clear F1 N1 kd1 hD1 hD1'
    dsimp only at G1 M1 ⊢
    k_steps
    rename Fr _ _ _ _ => F12
    rename News _ _ _ _ => N12
    refine Halt.go (atLv (d := 600) (law_digits_spec (n := 4) ⟨X.keeps F12.keep, p, loose, mean, mg, mb, T.keeps F12.keep⟩ (by decide) (bd _ _ f2).1 (bd _ _ f2).2 fun D2 ys2 hd2 tkd2 hi2 hD2 hD2' kd2 => ?_))
    have G2 := fr_ext F12 kd2
    have M2 := news_add F12 N12 kd2 hD2 hD2'
    clear F12 N12 kd2 hD2 hD2'
    dsimp only at G2 M2 ⊢
    k_steps
    rename Fr _ _ _ _ => F13
    rename News _ _ _ _ => N13
    refine Halt.go (atLv (d := 600) (law_digits_spec (n := 4) ⟨X.keeps F13.keep, p, loose, mean, mg, mb, T.keeps F13.keep⟩ (by decide) (bd _ _ f3).1 (bd _ _ f3).2 fun D3 ys3 hd3 tkd3 hi3 hD3 hD3' kd3 => ?_))
    have G3 := fr_ext F13 kd3
    have M3 := news_add F13 N13 kd3 hD3 hD3'
    clear F13 N13 kd3 hD3 hD3'
    dsimp only at G3 M3 ⊢
    k_steps
    rename Fr _ _ _ _ => F14
    rename News _ _ _ _ => N14
    refine Halt.go (atLv (d := 600) (law_digits_spec (n := 4) ⟨X.keeps F14.keep, p, loose, mean, mg, mb, T.keeps F14.keep⟩ (by decide) (bd _ _ f4).1 (bd _ _ f4).2 fun D4 ys4 hd4 tkd4 hi4 hD4 hD4' kd4 => ?_))
    have G4 := fr_ext F14 kd4
    have M4 := news_add F14 N14 kd4 hD4 hD4'
    clear F14 N14 kd4 hD4 hD4'
    dsimp only at G4 M4 ⊢
    k_steps
    rename IntsAre _ (dig a 4 ++ dig b 4 ++ dig c 4 ++ dig d 4) => hI
    rename Fr _ _ _ _ => FA
    rename News _ _ _ _ => NA
    rename_i wsD _ lD
    have nD := NA _ List.mem_cons_self
    dsimp only at nD
    subst hg
    subst hQQ
    refine Halt.go ⟨_, wsD, _, _, _, rfl, ?_, hide_fresh nD.2.2 (by rw [List.mem_singleton]; exact Nat.ne_of_gt lD.2.2.2.2.2.2), nD.1, ext_of_mu (mu := [(l, W.listOf vs.toArray nl)]) (fs := [l]) rfl FA (fun q hq => NA q (List.mem_append_right [_, _, _, _, _, _, _] hq)) (List.forall_mem_cons.mpr ⟨hl, List.forall_mem_nil _⟩), rfl⟩
    unfold sumInts
    rw [f1, f2, f3, f4]
    exact hI
end
section
-- part N7
theorem lev_one {ks : List Int} {i : Nat} (h : i < ks.length) : lev ((ks.drop i).take 1) = ks.getD i 0 := by
  rw [List.drop_eq_getElem_cons h, List.take_succ_cons, List.take_zero, lev, lev, List.getD_eq_getElem?_getD, List.getElem?_eq_getElem h]
  simp
/-- what the law's own reading gives, all new -/
def Due (g h : Heap) (v : Value) (r : List Int × (Int × Int × Int) × Int) : Prop :=
  ∃ (D RL PT : Addr) (tb u1 u2 u3 : Tok) (ys : List Value) (n : Nat), v = .ref D ∧ IntsAre ys r.1 ∧
    ∀ q ∈ ([(D, { cls := .type "tuple", data := .seq #[.ref RL, .ref PT, .int r.2.2 tb] }), (RL, W.listOf ys.toArray n), (PT, { cls := .type "tuple", data := .seq #[.int r.2.1.1 u1, .int r.2.1.2.1 u2, .int r.2.1.2.2 u3] })] : List (Addr × Obj)), h.get? q.1 = some q.2 ∧ g.get? q.1 = none
local macro_rules | `(tactic| kmk_nums) => `(tactic| with_reducible first
  | ((refine' kmk_from ?gi ?gx); (case gi => assumption); (case gx => omega))
  | ((refine' kmk_upto ?gi ?gx); (case gi => assumption); (case gx => omega))
  | ((refine' kmk_run ?gi ?gx ?gy); (case gi => assumption); (case gx => omega); (case gy => omega)))
local macro_rules | `(tactic| walk_at "compareOp NotEq ref ref") => `(tactic| refine Halt.mk ?_)
set_option maxHeartbeats 4000000 in
theorem law_read_spec {w : World} {fr : Option (List Env)} {s : Shared} {Q E : Value → Shared → Prop} {l : Addr} {vs : List Value} {nl : Nat} {ks : List Int} {which number : Int} {w1 w2 : Tok}
    (hl : s.heap.get? l = some (W.listOf vs.toArray nl)) (G : Gd w (hideAll s.heap [l])) (hi : IntsAre vs ks) (hk : Oct ks) (hn : ks.length ≤ 100)
    (none : parseB ks which number = none → ∀ h' tk, Ext s.heap h' → Q .none { s with heap := h', toks := tk })
    (some' : ∀ r v h' tk, parseB ks which number = some r → Due s.heap h' v r → Ext s.heap h' → Q v { s with heap := h', toks := tk }) :
    wpAny (model PySem.Challenge.rw_pb0583_01.row.prog w) (LvA 500 fr) (call (.ref 325) [.ref l, .int which w1, .int number w2]) Q E s := by
  obtain ⟨X, p, loose, mean, mg, mb, T⟩ := G
  revert X; k_fill; intro X
  refine wpAny_call ?_
  refine' enterF (mu := [(l, W.listOf vs.toArray nl)]) (fs := [l]) (binds := [("octets", .ref l), ("which", .int which w1), ("number", .int number w2)]) ?k0 rfl ?k1 ?k2 ?k3 ?k4 ?k5 ?k6 ?k7 ?_ ?c2 ?c3 ?c4 ?c5
  case k0 => exact List.forall_mem_cons.mpr ⟨hl, List.forall_mem_nil _⟩
  (k_dflt ((case k1 => k_asm); (case k2 => k_asm); (case k3 => k_is); (case k4 => k_is); (case k5 => exact Nat.le_of_ble_eq_true rfl); (case k6 => first | exact BindsTo.of_eq rfl | exact binds_K (by k_in) rfl (by k_is) rfl rfl rfl); (case k7 => exact locs rfl); (case c2 => exact rfl); (case c3 => exact rfl); (case c4 => exact rfl); (case c5 => decide)))
  intro L' h' F' N' l'
  clear l'
  generalize hg : hideAll s.heap [l] = g at X T F' N'
  have hvl : vs.length = ks.length := hi.length
  refine wpAny_mono (E := fun _ _ => False) (Q := fun fl s' => Halt (∃ v h' tk, fl = .ret v ∧ Ext s.heap h' ∧ s' = { s with heap := h', toks := tk } ∧ ((v = .none ∧ parseB ks which number = Option.none) ∨ ∃ r, parseB ks which number = some r ∧ Due s.heap h' v r))) ?_
    (fun fl s' q => by obtain ⟨v, h', tk, rfl, e1, rfl, ⟨rfl, e2⟩ | ⟨r, z1, z2⟩⟩ := q; · exact none e2 h' tk e1
                       · exact some' r v h' tk z1 z2 e1) (fun _ _ q => q.elim)
  refine opqA fun QQ hQQ => ?_
  k_steps
  · rename (_ : Int) < 36 => h36
    rename Fr _ _ _ _ => FA
    rename News _ _ _ _ => NA
    have hp : parseB ks which number = Option.none := by unfold parseB; rw [if_pos (by omega)]
    subst hg
    subst hQQ
    exact Halt.go ⟨_, _, _, rfl, ext_of_mu (mu := [(l, W.listOf vs.toArray nl)]) (fs := [l]) rfl FA NA (List.forall_mem_cons.mpr ⟨hl, List.forall_mem_nil _⟩), rfl, .inl ⟨rfl, hp⟩⟩
  rename ¬ ((_ : Int) < 36) => h36
  rename IntsAre _ (List.take _ ks) => hI1
  rename Fr _ _ _ _ => FA
  rename News _ _ _ _ => NA
  have N1 : News g L' _ [(_, W.listOf _ 0)] := fun q hq => NA q (List.mem_append_left [_] hq)
  rw [show ((ks.length : Int) - 16).toNat = ks.length - 16 by omega] at hI1
  refine Halt.go (atLv (d := 550) (law_sum_spec (N1 _ List.mem_cons_self).1 (gd_hide (mu := [(_, _)]) ⟨X, p, loose, mean, mg, mb, T⟩ FA N1) hI1 (fun k z => hk k (List.mem_of_mem_take z)) (by rw [List.length_take]; omega) fun D1 ys1 n1 h1 tk1 hi1 hD1 hD1' k1 => ?_))
  have F2 := fr_ext FA k1
  have N2 := news_add FA NA k1 hD1 hD1'
  clear FA NA N1 k1 hD1 hD1'
  dsimp only at F2 N2 ⊢
  obtain ⟨SS, hSS⟩ : ∃ SS, SS = sumInts (ks.take (ks.length - 16)) := ⟨_, rfl⟩
  rw [← hSS] at hi1
  k_steps
  rename IntsAre _ (List.drop _ ks) => hI2
  rename Fr _ _ _ _ => FA
  rename News _ _ _ _ => NA
  rw [show ((ks.length : Int) - 16).toNat = ks.length - 16 by omega] at hI2
  have y1 := (NA _ List.mem_cons_self).1
  have y2 := (NA _ (List.mem_cons_of_mem _ List.mem_cons_self)).1
  dsimp only at y1 y2
  refine Halt.go (ne_intsK ⟨_, y2, rfl, _, rfl⟩ hi1 ⟨_, y1, rfl, _, rfl⟩ hI2 (by exact Nat.le_of_ble_eq_true rfl) ?_)
  clear y1 y2
  k_steps
  rotate_left
  · rename ¬ SS = _ => hne
    rename Fr _ _ _ _ => FA
    rename News _ _ _ _ => NA
    have hp : parseB ks which number = Option.none := by
      unfold parseB
      rw [if_neg (by omega), if_pos (fun z => hne (hSS.trans z))]
    subst hg
    subst hQQ
    exact Halt.go ⟨_, _, _, rfl, ext_of_mu (mu := [(l, W.listOf vs.toArray nl)]) (fs := [l]) rfl FA (fun q hq => NA q (by repeat (first | exact hq | refine List.mem_cons_of_mem _ ?_))) (List.forall_mem_cons.mpr ⟨hl, List.forall_mem_nil _⟩), rfl, .inl ⟨rfl, hp⟩⟩
  rename SS = _ => heq
  rw [hSS] at heq
  clear hSS hi1 hI1 hI2
  rename IntsAre _ (List.take _ (List.drop _ ks)) => hI
  rw [Nat.min_eq_left (show 4 ≤ ks.length by omega)] at hI
  replace hI : IntsAre _ (List.take 4 (List.drop 0 ks)) := hI
  rename Fr _ _ _ _ => FA
  rename News _ _ _ _ => NA
  have y1 := (NA _ List.mem_cons_self).1
  dsimp only at y1
  refine Halt.go (atLv (d := 600) (law_value_spec ⟨X.keeps FA.keep, p, loose, mean, mg, mb, T.keeps FA.keep⟩ ⟨_, y1, rfl, _, rfl⟩ hI (fun k z => hk k (List.mem_of_mem_drop (List.mem_of_mem_take z))) (by rw [List.length_take]; omega) fun v1 tv1 hh1 tkh1 hv1 kk => ?_))
  have F2 := fr_ext FA kk
  have N2 : News g L' _ _ := fun q hq => ⟨kk _ _ (NA q (List.mem_cons_of_mem _ (List.mem_cons_of_mem _ (List.mem_cons_of_mem _ (List.mem_cons_of_mem _ hq))))).1, (NA q (List.mem_cons_of_mem _ (List.mem_cons_of_mem _ (List.mem_cons_of_mem _ (List.mem_cons_of_mem _ hq))))).2⟩
  clear FA NA kk y1 hI
  dsimp only at F2 N2 ⊢
  k_steps
  · rename _ ≠ _ => hc1
    rename Fr _ _ _ _ => FA
    rename News _ _ _ _ => NA
    have hp : parseB ks which number = Option.none := by
      unfold parseB
      rw [if_neg (by omega), if_neg (fun z => z heq), if_pos (by rw [← hv1]; exact hc1)]
    subst hg
    subst hQQ
    exact Halt.go ⟨_, _, _, rfl, ext_of_mu (mu := [(l, W.listOf vs.toArray nl)]) (fs := [l]) rfl FA (fun q hq => NA q (by repeat (first | exact hq | refine List.mem_cons_of_mem _ ?_))) (List.forall_mem_cons.mpr ⟨hl, List.forall_mem_nil _⟩), rfl, .inl ⟨rfl, hp⟩⟩
  rename _ = which => hc1
  rename IntsAre _ (List.take _ (List.drop _ ks)) => hI
  rw [Nat.min_eq_left (show 7 ≤ ks.length by omega)] at hI
  replace hI : IntsAre _ (List.take 3 (List.drop 4 ks)) := hI
  rename Fr _ _ _ _ => FA
  rename News _ _ _ _ => NA
  have y1 := (NA _ List.mem_cons_self).1
  dsimp only at y1
  refine Halt.go (atLv (d := 600) (law_value_spec ⟨X.keeps FA.keep, p, loose, mean, mg, mb, T.keeps FA.keep⟩ ⟨_, y1, rfl, _, rfl⟩ hI (fun k z => hk k (List.mem_of_mem_drop (List.mem_of_mem_take z))) (by rw [List.length_take]; omega) fun v2 tv2 hh2 tkh2 hv2 kk => ?_))
  have F2 := fr_ext FA kk
  have N2 : News g L' _ _ := fun q hq => ⟨kk _ _ (NA q (List.mem_cons_of_mem _ hq)).1, (NA q (List.mem_cons_of_mem _ hq)).2⟩
  clear FA NA kk y1 hI
  dsimp only at F2 N2 ⊢
  k_steps
  · rename _ ≠ _ => hc2
    rename Fr _ _ _ _ => FA
    rename News _ _ _ _ => NA
    have hp : parseB ks which number = Option.none := by
      unfold parseB
      rw [if_neg (by omega), if_neg (fun z => z heq), if_neg (fun z => z (hv1.symm.trans hc1)), if_pos (by rw [← hv2]; exact hc2)]
    subst hg
    subst hQQ
    exact Halt.go ⟨_, _, _, rfl, ext_of_mu (mu := [(l, W.listOf vs.toArray nl)]) (fs := [l]) rfl FA (fun q hq => NA q (by repeat (first | exact hq | refine List.mem_cons_of_mem _ ?_))) (List.forall_mem_cons.mpr ⟨hl, List.forall_mem_nil _⟩), rfl, .inl ⟨rfl, hp⟩⟩
  rename _ = number => hc2
  rename IntsAre _ (List.take _ (List.drop _ ks)) => hI
  rw [Nat.min_eq_left (show 9 ≤ ks.length by omega)] at hI
  replace hI : IntsAre _ (List.take 2 (List.drop 7 ks)) := hI
  rename Fr _ _ _ _ => FA
  rename News _ _ _ _ => NA
  have y1 := (NA _ List.mem_cons_self).1
  dsimp only at y1
  refine Halt.go (atLv (d := 600) (law_value_spec ⟨X.keeps FA.keep, p, loose, mean, mg, mb, T.keeps FA.keep⟩ ⟨_, y1, rfl, _, rfl⟩ hI (fun k z => hk k (List.mem_of_mem_drop (List.mem_of_mem_take z))) (by rw [List.length_take]; omega) fun v3 tv3 hh3 tkh3 hv3 kk => ?_))
  have F2 := fr_ext FA kk
  have N2 : News g L' _ _ := fun q hq => ⟨kk _ _ (NA q (List.mem_cons_of_mem _ hq)).1, (NA q (List.mem_cons_of_mem _ hq)).2⟩
  clear FA NA kk y1 hI
  dsimp only at F2 N2 ⊢
  k_steps
  · rename _ < _ => hc3
    rename Fr _ _ _ _ => FA
    rename News _ _ _ _ => NA
    have hp : parseB ks which number = Option.none := by
      unfold parseB
      rw [if_neg (by omega), if_neg (fun z => z heq), if_neg (fun z => z (hv1.symm.trans hc1)), if_neg (fun z => z (hv2.symm.trans hc2)), if_pos (by rw [← hv3]; exact hc3)]
    subst hg
    subst hQQ
    exact Halt.go ⟨_, _, _, rfl, ext_of_mu (mu := [(l, W.listOf vs.toArray nl)]) (fs := [l]) rfl FA (fun q hq => NA q (by repeat (first | exact hq | refine List.mem_cons_of_mem _ ?_))) (List.forall_mem_cons.mpr ⟨hl, List.forall_mem_nil _⟩), rfl, .inl ⟨rfl, hp⟩⟩
  rename ¬ (_ < _) => hc3
  rename IntsAre _ (List.take _ (List.drop _ ks)) => hI
  rw [Nat.min_eq_left (show 14 ≤ ks.length by omega)] at hI
  replace hI : IntsAre _ (List.take 4 (List.drop 10 ks)) := hI
  rename Fr _ _ _ _ => FA
  rename News _ _ _ _ => NA
  have y1 := (NA _ List.mem_cons_self).1
  dsimp only at y1
  refine Halt.go (atLv (d := 600) (law_value_spec ⟨X.keeps FA.keep, p, loose, mean, mg, mb, T.keeps FA.keep⟩ ⟨_, y1, rfl, _, rfl⟩ hI (fun k z => hk k (List.mem_of_mem_drop (List.mem_of_mem_take z))) (by rw [List.length_take]; omega) fun v4 tv4 hh4 tkh4 hv4 kk => ?_))
  have F2 := fr_ext FA kk
  have N2 : News g L' _ _ := fun q hq => ⟨kk _ _ (NA q (List.mem_cons_of_mem _ hq)).1, (NA q (List.mem_cons_of_mem _ hq)).2⟩
  clear FA NA kk y1 hI
  dsimp only at F2 N2 ⊢
  k_steps
  rename IntsAre _ (List.take _ (List.drop _ ks)) => hI
  rw [Nat.min_eq_left (show 16 ≤ ks.length by omega)] at hI
  replace hI : IntsAre _ (List.take 2 (List.drop 14 ks)) := hI
  rename Fr _ _ _ _ => FA
  rename News _ _ _ _ => NA
  have y1 := (NA _ List.mem_cons_self).1
  dsimp only at y1
  refine Halt.go (atLv (d := 600) (law_value_spec ⟨X.keeps FA.keep, p, loose, mean, mg, mb, T.keeps FA.keep⟩ ⟨_, y1, rfl, _, rfl⟩ hI (fun k z => hk k (List.mem_of_mem_drop (List.mem_of_mem_take z))) (by rw [List.length_take]; omega) fun v5 tv5 hh5 tkh5 hv5 kk => ?_))
  have F2 := fr_ext FA kk
  have N2 : News g L' _ _ := fun q hq => ⟨kk _ _ (NA q (List.mem_cons_of_mem _ hq)).1, (NA q (List.mem_cons_of_mem _ hq)).2⟩
  clear FA NA kk y1 hI
  dsimp only at F2 N2 ⊢
  k_steps
  rename IntsAre _ (List.take _ (List.drop _ ks)) => hI
  rw [Nat.min_eq_left (show 9 ≤ ks.length by omega)] at hI
  replace hI : IntsAre _ (List.take 2 (List.drop 7 ks)) := hI
  rename Fr _ _ _ _ => FA
  rename News _ _ _ _ => NA
  have y1 := (NA _ List.mem_cons_self).1
  dsimp only at y1
  refine Halt.go (atLv (d := 600) (law_value_spec ⟨X.keeps FA.keep, p, loose, mean, mg, mb, T.keeps FA.keep⟩ ⟨_, y1, rfl, _, rfl⟩ hI (fun k z => hk k (List.mem_of_mem_drop (List.mem_of_mem_take z))) (by rw [List.length_take]; omega) fun v6 tv6 hh6 tkh6 hv6 kk => ?_))
  have F2 := fr_ext FA kk
  have N2 : News g L' _ _ := fun q hq => ⟨kk _ _ (NA q (List.mem_cons_of_mem _ hq)).1, (NA q (List.mem_cons_of_mem _ hq)).2⟩
  clear FA NA kk y1 hI
  dsimp only at F2 N2 ⊢
  have hv6b : 0 ≤ v6 := by
    rw [hv6]; exact (lev_bound fun k z => hk k (List.mem_of_mem_drop (List.mem_of_mem_take z))).1
  k_steps
  rename IntsAre _ (List.take _ (List.drop 20 ks)) => hR
  rename IntsAre _ (List.take _ (List.drop _ ks)) => hI
  rw [Nat.min_eq_left (show 20 ≤ ks.length by omega)] at hI
  replace hI : IntsAre _ (List.take 4 (List.drop 16 ks)) := hI
  rename Fr _ _ _ _ => FA
  rename News _ _ _ _ => NA
  have y1 := (NA _ List.mem_cons_self).1
  dsimp only at y1
  refine Halt.go (atLv (d := 600) (law_value_spec ⟨X.keeps FA.keep, p, loose, mean, mg, mb, T.keeps FA.keep⟩ ⟨_, y1, rfl, _, rfl⟩ hI (fun k z => hk k (List.mem_of_mem_drop (List.mem_of_mem_take z))) (by rw [List.length_take]; omega) fun v7 tv7 hh7 tkh7 hv7 kk => ?_))
  have F2 := fr_ext FA kk
  have N2 : News g L' _ _ := fun q hq => ⟨kk _ _ (NA q (List.mem_cons_of_mem _ hq)).1, (NA q (List.mem_cons_of_mem _ hq)).2⟩
  clear FA NA kk y1 hI
  dsimp only at F2 N2 ⊢
  k_steps
  rename Fr _ _ _ _ => FA
  rename News _ _ _ _ => NA
  rename_i D4 _ l4 _ _ _ _ _ _ l3 D2 wsR _ _ _ l2 _ _ _ _ _ l1 DD _ lD
  have h63 : v6 = v3 := hv6.trans hv3.symm
  have e20 : min (20 + v6).toNat ks.length - 20 = v6.toNat := by omega
  rw [e20] at hR
  have hp : parseB ks which number = some ((ks.drop 20).take v6.toNat, (ks.getD 9 0, v4, v5), v7) := by
    unfold parseB
    rw [if_neg (by omega), if_neg (fun z => z heq), if_neg (fun z => z (hv1.symm.trans hc1)), if_neg (fun z => z (hv2.symm.trans hc2)), if_neg (by rw [← hv3]; exact hc3), ← hv6, lev_one (by omega), ← hv4, ← hv5, ← hv7]
  have n1 := NA _ List.mem_cons_self
  have n2 := NA _ (List.mem_cons_of_mem _ List.mem_cons_self)
  have n3 := NA _ (List.mem_cons_of_mem _ (List.mem_cons_of_mem _ List.mem_cons_self))
  dsimp only at n1 n2 n3
  subst hg
  have ne : ∀ {D : Addr}, @LT.lt Nat _ l D → D ∉ [l] := fun h z => Nat.ne_of_gt h (List.mem_singleton.mp z)
  subst hQQ
  refine Halt.go ⟨_, _, _, rfl, ext_of_mu (mu := [(l, W.listOf vs.toArray nl)]) (fs := [l]) rfl FA (fun q hq => NA q (by repeat (first | exact hq | refine List.mem_cons_of_mem _ ?_))) (List.forall_mem_cons.mpr ⟨hl, List.forall_mem_nil _⟩), rfl, .inr ⟨_, hp, DD, D2, D4, tv7, _, tv4, tv5, wsR, 0, rfl, hR, List.forall_mem_cons.mpr ⟨⟨n1.1, hide_fresh n1.2.2 (ne lD.2.2)⟩, List.forall_mem_cons.mpr ⟨⟨n2.1, hide_fresh n2.2.2 (ne l2.2)⟩, List.forall_mem_cons.mpr ⟨⟨n3.1, hide_fresh n3.2.2 (ne l4)⟩, List.forall_mem_nil _⟩⟩⟩⟩⟩
end
section
-- part P17
local macro_rules | `(tactic| walk_at "subscriptTail") => `(tactic| (k_here; (with_reducible show wpAny _ _ (subscriptTail _ _ (Value.ref _) (Value.int _ _)) _ _ _); k_dflt (refine' item_tupleT ?t ?a ?b ?c ?d ?_; (case t => exact News.isTup (by with_reducible assumption) (by k_mem)); (case a => decide); (case b => decide); (case c => rfl); (case d => rfl); k_whole)))
noncomputable def ptrObjs (P : Params) (x dx T S pl : Addr) (ts : List Tok) (s0 s1 s2 s3 ka kb kc kd ke t1 t2 t3 u1 u2 u3 : Tok) (size birth chain v0 v1 v2 : Int) : List (Addr × Obj) :=
  [(x, instObj 276 dx), (dx, dictOf (ptrEnts P ts [.ref T, .int 11 ka, .int 0 kb, .int size t1, .int size t1, .int 0 kc, .int 0 kd, .int birth t2, .int chain t3, .ref S, .int 0 ke]) 11), (T, tup1 pl), (S, tup4 0 s0 0 s1 0 s2 0 s3), (pl, tup3 v0 u1 v1 u2 v2 u3)]
theorem sink_step {g h h' : Heap} {L x dx ba : Addr} {hs : Int} {ts : Tok} {nn : Nat} {b b' : Array UInt8} {m : Str → Option Value} {rest : List (Addr × Obj)} (F : Fr g L h m) (N : News g L h ((x, instObj 123 dx) :: (dx, dictOf [⟨hs, .str "octets" ts, .ref ba⟩] nn) :: (ba, baObj b) :: rest))
    (k : Exo [ba] h h') (e : h'.get? ba = some (baObj b')) (hx : @LT.lt Nat _ dx x ∧ @LT.lt Nat _ x ba) (hr : ∀ q ∈ rest, q.1 ≠ ba) : Fr g L h' m ∧ News g L h' ((x, instObj 123 dx) :: (dx, dictOf [⟨hs, .str "octets" ts, .ref ba⟩] nn) :: (ba, baObj b') :: rest) := by
  have hba := N (ba, baObj b) (List.mem_cons_of_mem _ (List.mem_cons_of_mem _ List.mem_cons_self))
  refine ⟨fr_exo F k fun q hq => by rw [List.mem_singleton.mp hq]; exact ⟨hba.2.2, hba.2.1⟩, ?_⟩
  have kp : ∀ q, q ∈ ((x, instObj 123 dx) :: (dx, dictOf [⟨hs, .str "octets" ts, .ref ba⟩] nn) :: (ba, baObj b) :: rest) → q.1 ≠ ba → h'.get? q.1 = some q.2 ∧ q.1 ≠ L ∧ g.get? q.1 = none := fun q hq n =>
    ⟨k _ _ (fun z => n (List.mem_singleton.mp z)) (N q hq).1, (N q hq).2⟩
  refine List.forall_mem_cons.mpr ⟨kp _ List.mem_cons_self (Nat.ne_of_lt hx.2), List.forall_mem_cons.mpr ⟨kp _ (List.mem_cons_of_mem _ List.mem_cons_self) (Nat.ne_of_lt (Nat.lt_trans hx.1 hx.2)), List.forall_mem_cons.mpr ⟨⟨e, hba.2⟩, fun q hq => kp q (List.mem_cons_of_mem _ (List.mem_cons_of_mem _ (List.mem_cons_of_mem _ hq))) (hr q hq)⟩⟩⟩
theorem sink_mu {g h : Heap} {L x dx ba : Addr} {hs : Int} {ts : Tok} {nn : Nat} {b : Array UInt8} {rest : List (Addr × Obj)} (N : News g L h ((x, instObj 123 dx) :: (dx, dictOf [⟨hs, .str "octets" ts, .ref ba⟩] nn) :: (ba, baObj b) :: rest)) : News g L h (sinkObjs x dx ba hs ts nn b) := fun q hq =>
  N q (List.mem_append_left rest hq)
set_option maxHeartbeats 4000000 in
theorem block_octets_spec {w : World} {fr : Option (List Env)} {s : Shared} {Q E : Value → Shared → Prop} {x dx T S pl : Addr} {ts : List Tok} {s0 s1 s2 s3 ka kb kc kd ke t1 t2 t3 u1 u2 u3 w1 w2 w3 w4 : Tok} {psize birth pchain v0 v1 v2 chain number size : Int} {rows : Array UInt8}
    (hmu : ∀ q ∈ ptrObjs w.params x dx T S pl ts s0 s1 s2 s3 ka kb kc kd ke t1 t2 t3 u1 u2 u3 psize birth pchain v0 v1 v2, s.heap.get? q.1 = some q.2) (hts : ts.length = 11) (G : Gd w (hideAll s.heap [x, dx, T, S, pl]))
    (hc : 0 ≤ chain ∧ chain < 256 ^ 4) (hn : 0 ≤ number ∧ number < 256 ^ 3) (h0 : 0 ≤ v0 ∧ v0 < 256 ^ 1) (h1 : 0 ≤ v1 ∧ v1 < 256 ^ 4) (h2' : 0 ≤ v2 ∧ v2 < 256 ^ 2) (hb : 0 ≤ birth ∧ birth < 256 ^ 4) (hr : (rows.size : Int) ≤ 100) (hs0 : 36 ≤ size) (hs : size ≤ 100)
    (fly : size < (rows.size : Int) + 36 → ∃ outer, fr = some outer ∧ s.heap.FunFrames (hideAll s.heap (outer.filterMap (·.frame))) outer ∧ ∀ e s', Flew s outer e s' → E e s')
    (ret : ∀ c t h' tk, (rows.size : Int) + 36 ≤ size → KBw.bInts c = blockBody chain number (KBw.bInts rows) v0 v1 v2 birth (size.toNat - 16) ++ sumInts (blockBody chain number (KBw.bInts rows) v0 v1 v2 birth (size.toNat - 16)) → Ext s.heap h' → Q (.bytes c t) { s with heap := h', toks := tk }) :
    wpP (model PySem.Challenge.rw_pb0583_01.row.prog w) (LvA 350 fr) (call (.ref 251) [.int chain w1, .int number w2, .bytes rows w3, .ref x, .int size w4]) Q E s := by
  have hrow : 0 ≤ (rows.size : Int) ∧ (rows.size : Int) < 256 ^ 2 := by
    have e : (256 : Int) ^ 2 = 65536 := by decide
    rw [e]; omega
  obtain ⟨X, p, loose, mean, mg, mb, T'⟩ := G
  revert X; k_fill; intro X
  obtain ⟨a0, a1, a2, a3, a4, a5, a6, a7, a8, a9, a10, rfl⟩ := eleven hts
  refine .called ?_
  refine' enterPM (mu := ptrObjs w.params x dx T S pl [a0, a1, a2, a3, a4, a5, a6, a7, a8, a9, a10] s0 s1 s2 s3 ka kb kc kd ke t1 t2 t3 u1 u2 u3 psize birth pchain v0 v1 v2) (fs := [x, dx, T, S, pl]) (binds := [("chain", .int chain w1), ("number", .int number w2), ("rows", .bytes rows w3), ("following", .ref x), ("size", .int size w4)]) ?k0 rfl ?k1 ?k2 ?k3 ?k4 ?k5 ?k6 ?k7 ?_ ?c2 ?c3 ?c4 ?c5
  case k0 => exact hmu
  (k_dflt ((case k1 => k_asm); (case k2 => k_asm); (case k3 => k_is); (case k4 => k_is); (case k5 => exact Nat.le_of_ble_eq_true rfl); (case k6 => first | exact BindsTo.of_eq rfl | exact binds_K (by k_in) rfl (by k_is) rfl rfl rfl); (case k7 => exact locs rfl); (case c2 => exact rfl); (case c3 => exact rfl); (case c4 => exact rfl); (case c5 => decide)))
  intro L' h' hL F' N' l'
  clear l'
  generalize hg : hideAll s.heap [x, dx, T, S, pl] = g at X T' F' N'
  dsimp only [ptrObjs, ptrEnts, List.zip, List.zipWith, List.map] at N'
  refine wpP.mono (E := fun e s' => Halt (size < (rows.size : Int) + 36 ∧ ∀ outer, fr = some outer → s.heap.FunFrames (hideAll s.heap (outer.filterMap (·.frame))) outer → ∃ ea a0 h2 tk, e = .ref ea ∧ s' = { s with heap := h2, toks := tk } ∧
      Heap.FlyingW (hideAll s.heap (outer.filterMap (·.frame))) (envOf _ _ L' 251 _ :: outer) ea (.ref 56) a0 h2 ∧ s.heap.UpToSlots h2)) (Q := fun fl s' => ∃ c t h' tk, fl = .ret (.bytes c t) ∧ (rows.size : Int) + 36 ≤ size ∧ KBw.bInts c = blockBody chain number (KBw.bInts rows) v0 v1 v2 birth (size.toNat - 16) ++ sumInts (blockBody chain number (KBw.bInts rows) v0 v1 v2 birth (size.toNat - 16)) ∧ Ext s.heap h' ∧ s' = { s with heap := h', toks := tk }) ?_ (fun fl s' q => by obtain ⟨c, t, h', tk, rfl, e0, e1, e2, rfl⟩ := q; exact ret c t h' tk e0 e1 e2) (fun e s' q => by
      obtain ⟨hlt, q⟩ := q
      obtain ⟨outer, hfr, K, fl⟩ := fly hlt
      subst hfr
      obtain ⟨ea, a0, h2, tk, rfl, rfl, W, U⟩ := q outer rfl K
      exact wpAny_leaves_onW (Around.frames_deeper rfl) rfl W fun h3 x1 x2 => fl _ _ ⟨ea, a0, h3, tk, rfl, rfl, x1, U.trans x2⟩)
  refine opqPE fun QQ EE hQQ hEE => ?_
  refine .step ?_
  k_steps
  dsimp only
  rename Fr _ _ _ _ => F1
  rename News _ _ _ _ => N1
  refine .cons (.stAssign (.callName ?_))
  k_steps
  refine .calledWith (P := fun h => (hd.heap_1 w.params).In h) rfl (keeps_K (by k_is)) (.any (wpAny_pure ⟨X.keeps F1.keep, ?_⟩))
  refine atLvP (d := 550) (sink_new_spec ⟨X.keeps F1.keep, p, loose, mean, mg, mb, T'.keeps F1.keep⟩ fun sx sdx ba hs ts2 nn h2 tk2 hobj hne k2 => ?_)
  have F2 := fr_ext F1 k2
  have N2 : News g L' h2 (sinkObjs sx sdx ba hs ts2 nn #[] ++ _) := News.app (news_of F1 hobj) (fun q hq => ⟨k2 _ _ (N1 q hq).1, (N1 q hq).2⟩)
  have hba : ∀ q ∈ ptrObjs w.params x dx T S pl [a0, a1, a2, a3, a4, a5, a6, a7, a8, a9, a10] s0 s1 s2 s3 ka kb kc kd ke t1 t2 t3 u1 u2 u3 psize birth pchain v0 v1 v2, q.1 ≠ ba := fun q hq z => by
    have y1 := (hobj (ba, baObj #[]) (by simp [sinkObjs])).2
    have y2 := (N1 q hq).1
    rw [z] at y2
    exact absurd (y2.symm.trans y1) (by simp)
  clear F1 N1 hobj k2
  dsimp only [sinkObjs, List.cons_append, List.nil_append] at N2
  k_steps
  dsimp only
  have hI0 : KBw.bInts (#[] : Array UInt8) = [] := rfl
  rename Fr _ _ _ _ => FA
  rename News _ _ _ _ => NA
  refine .cons (.stExpr (.method ?_))
  k_steps
  refine .calledWith (P := fun h => (hd.heap_1 w.params).In h) rfl (keeps_K (by k_is)) (.any ?_)
  refine evalArgs_kw2 (by rfl) ?_
  k_steps
  show wpP _ _ (call (.ref 99) [.ref sx, .int chain _, .int ((4 : Nat) : Int) _] []) _ _ _
  refine atLvP (d := 560) (sink_number_spec (x := sx) (dx := sdx) (ba := ba) (hs := hs) (ts := ts2) (nn := nn) (b := #[]) (n := 4) (fun q hq => (sink_mu NA q hq).1) (gd_hide ⟨X, p, loose, mean, mg, mb, T'⟩ FA (sink_mu NA)) hne (by decide) (by decide) hc.1 hc.2 fun b1 hh0 tkk0 z1 z2 z3 => ?_)
  refine ⟨fun q z => (by cases z), ?_⟩
  obtain ⟨FB, NB⟩ := sink_step FA NA z2 z3 hne hba
  clear FA NA z2 z3
  dsimp only at FB NB ⊢
  have hI1 : KBw.bInts b1 = dig chain 4 := by rw [z1, hI0]; rfl
  clear z1
  have hz1 : b1.size = 4 := by rw [← KBw.ints_length, hI1]; simp only [List.length_append, dig_length]
  rename Fr _ _ _ _ => FA
  rename News _ _ _ _ => NA
  refine .cons (.stExpr (.method ?_))
  k_steps
  refine .calledWith (P := fun h => (hd.heap_1 w.params).In h) rfl (keeps_K (by k_is)) (.any ?_)
  refine evalArgs_kw2 (by rfl) ?_
  k_steps
  show wpP _ _ (call (.ref 99) [.ref sx, .int number _, .int ((3 : Nat) : Int) _] []) _ _ _
  refine atLvP (d := 560) (sink_number_spec (x := sx) (dx := sdx) (ba := ba) (hs := hs) (ts := ts2) (nn := nn) (b := b1) (n := 3) (fun q hq => (sink_mu NA q hq).1) (gd_hide ⟨X, p, loose, mean, mg, mb, T'⟩ FA (sink_mu NA)) hne (by omega) (by decide) hn.1 hn.2 fun b2 hh1 tkk1 z1 z2 z3 => ?_)
  refine ⟨fun q z => (by cases z), ?_⟩
  obtain ⟨FB, NB⟩ := sink_step FA NA z2 z3 hne hba
  clear FA NA z2 z3
  dsimp only at FB NB ⊢
  have hI2 : KBw.bInts b2 = dig chain 4 ++ dig number 3 := by rw [z1, hI1]
  clear z1
  have hz2 : b2.size = 7 := by rw [← KBw.ints_length, hI2]; simp only [List.length_append, dig_length]
  rename Fr _ _ _ _ => FA
  rename News _ _ _ _ => NA
  refine .cons (.stExpr (.method ?_))
  k_steps
  refine .calledWith (P := fun h => (hd.heap_1 w.params).In h) rfl (keeps_K (by k_is)) (.any ?_)
  refine evalArgs_kw2 (by rfl) ?_
  k_steps
  show wpP _ _ (call (.ref 99) [.ref sx, .int (rows.size : Int) _, .int ((2 : Nat) : Int) _] []) _ _ _
  refine atLvP (d := 560) (sink_number_spec (x := sx) (dx := sdx) (ba := ba) (hs := hs) (ts := ts2) (nn := nn) (b := b2) (n := 2) (fun q hq => (sink_mu NA q hq).1) (gd_hide ⟨X, p, loose, mean, mg, mb, T'⟩ FA (sink_mu NA)) hne (by omega) (by decide) hrow.1 hrow.2 fun b3 hh2 tkk2 z1 z2 z3 => ?_)
  refine ⟨fun q z => (by cases z), ?_⟩
  obtain ⟨FB, NB⟩ := sink_step FA NA z2 z3 hne hba
  clear FA NA z2 z3
  dsimp only at FB NB ⊢
  have hI3 : KBw.bInts b3 = dig chain 4 ++ dig number 3 ++ dig (rows.size : Int) 2 := by rw [z1, hI2]
  clear z1
  have hz3 : b3.size = 9 := by rw [← KBw.ints_length, hI3]; simp only [List.length_append, dig_length]
  rename Fr _ _ _ _ => FA
  rename News _ _ _ _ => NA
  refine .cons (.stExpr (.method ?_))
  k_steps
  refine .calledWith (P := fun h => (hd.heap_1 w.params).In h) rfl (keeps_K (by k_is)) (.any ?_)
  refine evalArgs_kw2 (by rfl) ?_
  k_steps
  show wpP _ _ (call (.ref 99) [.ref sx, .int v0 _, .int ((1 : Nat) : Int) _] []) _ _ _
  refine atLvP (d := 560) (sink_number_spec (x := sx) (dx := sdx) (ba := ba) (hs := hs) (ts := ts2) (nn := nn) (b := b3) (n := 1) (fun q hq => (sink_mu NA q hq).1) (gd_hide ⟨X, p, loose, mean, mg, mb, T'⟩ FA (sink_mu NA)) hne (by omega) (by decide) h0.1 h0.2 fun b4 hh3 tkk3 z1 z2 z3 => ?_)
  refine ⟨fun q z => (by cases z), ?_⟩
  obtain ⟨FB, NB⟩ := sink_step FA NA z2 z3 hne hba
  clear FA NA z2 z3
  dsimp only at FB NB ⊢
  have hI4 : KBw.bInts b4 = dig chain 4 ++ dig number 3 ++ dig (rows.size : Int) 2 ++ dig v0 1 := by rw [z1, hI3]
  clear z1
  have hz4 : b4.size = 10 := by rw [← KBw.ints_length, hI4]; simp only [List.length_append, dig_length]
  rename Fr _ _ _ _ => FA
  rename News _ _ _ _ => NA
  refine .cons (.stExpr (.method ?_))
  k_steps
  refine .calledWith (P := fun h => (hd.heap_1 w.params).In h) rfl (keeps_K (by k_is)) (.any ?_)
  refine evalArgs_kw2 (by rfl) ?_
  k_steps
  show wpP _ _ (call (.ref 99) [.ref sx, .int v1 _, .int ((4 : Nat) : Int) _] []) _ _ _
  refine atLvP (d := 560) (sink_number_spec (x := sx) (dx := sdx) (ba := ba) (hs := hs) (ts := ts2) (nn := nn) (b := b4) (n := 4) (fun q hq => (sink_mu NA q hq).1) (gd_hide ⟨X, p, loose, mean, mg, mb, T'⟩ FA (sink_mu NA)) hne (by omega) (by decide) h1.1 h1.2 fun b5 hh4 tkk4 z1 z2 z3 => ?_)
  refine ⟨fun q z => (by cases z), ?_⟩
  obtain ⟨FB, NB⟩ := sink_step FA NA z2 z3 hne hba
  clear FA NA z2 z3
  dsimp only at FB NB ⊢
  have hI5 : KBw.bInts b5 = dig chain 4 ++ dig number 3 ++ dig (rows.size : Int) 2 ++ dig v0 1 ++ dig v1 4 := by rw [z1, hI4]
  clear z1
  have hz5 : b5.size = 14 := by rw [← KBw.ints_length, hI5]; simp only [List.length_append, dig_length]
  rename Fr _ _ _ _ => FA
  rename News _ _ _ _ => NA
  refine .cons (.stExpr (.method ?_))
  k_steps
  refine .calledWith (P := fun h => (hd.heap_1 w.params).In h) rfl (keeps_K (by k_is)) (.any ?_)
  refine evalArgs_kw2 (by rfl) ?_
  k_steps
  show wpP _ _ (call (.ref 99) [.ref sx, .int v2 _, .int ((2 : Nat) : Int) _] []) _ _ _
  refine atLvP (d := 560) (sink_number_spec (x := sx) (dx := sdx) (ba := ba) (hs := hs) (ts := ts2) (nn := nn) (b := b5) (n := 2) (fun q hq => (sink_mu NA q hq).1) (gd_hide ⟨X, p, loose, mean, mg, mb, T'⟩ FA (sink_mu NA)) hne (by omega) (by decide) h2'.1 h2'.2 fun b6 hh5 tkk5 z1 z2 z3 => ?_)
  refine ⟨fun q z => (by cases z), ?_⟩
  obtain ⟨FB, NB⟩ := sink_step FA NA z2 z3 hne hba
  clear FA NA z2 z3
  dsimp only at FB NB ⊢
  have hI6 : KBw.bInts b6 = dig chain 4 ++ dig number 3 ++ dig (rows.size : Int) 2 ++ dig v0 1 ++ dig v1 4 ++ dig v2 2 := by rw [z1, hI5]
  clear z1
  have hz6 : b6.size = 16 := by rw [← KBw.ints_length, hI6]; simp only [List.length_append, dig_length]
  rename Fr _ _ _ _ => FA
  rename News _ _ _ _ => NA
  refine .cons (.stExpr (.method ?_))
  k_steps
  refine .calledWith (P := fun h => (hd.heap_1 w.params).In h) rfl (keeps_K (by k_is)) (.any ?_)
  refine evalArgs_kw2 (by rfl) ?_
  k_steps
  show wpP _ _ (call (.ref 99) [.ref sx, .int birth _, .int ((4 : Nat) : Int) _] []) _ _ _
  refine atLvP (d := 560) (sink_number_spec (x := sx) (dx := sdx) (ba := ba) (hs := hs) (ts := ts2) (nn := nn) (b := b6) (n := 4) (fun q hq => (sink_mu NA q hq).1) (gd_hide ⟨X, p, loose, mean, mg, mb, T'⟩ FA (sink_mu NA)) hne (by omega) (by decide) hb.1 hb.2 fun b7 hh6 tkk6 z1 z2 z3 => ?_)
  refine ⟨fun q z => (by cases z), ?_⟩
  obtain ⟨FB, NB⟩ := sink_step FA NA z2 z3 hne hba
  clear FA NA z2 z3
  dsimp only at FB NB ⊢
  have hI7 : KBw.bInts b7 = dig chain 4 ++ dig number 3 ++ dig (rows.size : Int) 2 ++ dig v0 1 ++ dig v1 4 ++ dig v2 2 ++ dig birth 4 := by rw [z1, hI6]
  clear z1
  have hz7 : b7.size = 20 := by rw [← KBw.ints_length, hI7]; simp only [List.length_append, dig_length]
  rename Fr _ _ _ _ => FA
  rename News _ _ _ _ => NA
  refine .cons (.stExpr (.method ?_))
  k_steps
  refine .calledWith (P := fun h => (hd.heap_1 w.params).In h) rfl (keeps_K (by k_is)) (.any ?_)
  refine evalArgs_kw2 (by rfl) ?_
  k_steps
  show wpP _ _ (call (.ref 106) [.ref sx, .bytes rows _] []) _ _ _
  refine atLvP (d := 560) (sink_put_spec (x := sx) (dx := sdx) (ba := ba) (hs := hs) (ts := ts2) (nn := nn) (b := b7) (c := rows) (fun q hq => (sink_mu NA q hq).1) (gd_hide ⟨X, p, loose, mean, mg, mb, T'⟩ FA (sink_mu NA)) hne (by omega) (by omega) fun hh7 tkk7 z2 z3 => ?_)
  refine ⟨fun q z => (by cases z), ?_⟩
  obtain ⟨FB, NB⟩ := sink_step FA NA z2 z3 hne hba
  clear FA NA z2 z3
  dsimp only at FB NB ⊢
  have hI8 := (ints_append (b := b7) (c := rows)).trans (congrArg (· ++ KBw.bInts rows) hI7)
  have hz8 : (b7 ++ rows).size = 20 + rows.size := by rw [Array.size_append, hz7]
  generalize b7 ++ rows = b8 at hI8 hz8 NB
  refine .step ?_
  k_steps
  rename Fr _ _ _ _ => FA
  rename News _ _ _ _ => NA
  refine Halt.go (atLv (d := 560) (sink_whole_spec (x := sx) (dx := sdx) (ba := ba) (hs := hs) (ts := ts2) (nn := nn) (b := b8) (fun q hq => (sink_mu NA q hq).1) (gd_hide ⟨X, p, loose, mean, mg, mb, T'⟩ FA (sink_mu NA)) (by omega) fun t9 h9 tk9 k9 => ?_))
  have F9 := fr_ext FA k9
  have N9 : News g L' h9 _ := fun q hq => ⟨k9 _ _ (NA q hq).1, (NA q hq).2⟩
  clear FA NA k9
  k_steps
  rename Fr _ _ _ _ => FA
  rename News _ _ _ _ => NA
  by_cases hfit : (rows.size : Int) + 36 ≤ size
  rotate_left
  · obtain ⟨outer, hfr, K, _⟩ := fly (by omega)
    subst hfr hg
    have kE : Ext s.heap h9 := ext_of_mu (mu := ptrObjs w.params x dx T S pl [a0, a1, a2, a3, a4, a5, a6, a7, a8, a9, a10] s0 s1 s2 s3 ka kb kc kd ke t1 t2 t3 u1 u2 u3 psize birth pchain v0 v1 v2) (fs := [x, dx, T, S, pl]) rfl FA (fun q hq => NA q (List.mem_append_right (sinkObjs sx sdx ba hs ts2 nn b8) hq)) hmu
    have hnew : (hideAll s.heap (outer.filterMap (·.frame))).get? L' = none := by
      cases z : (hideAll s.heap (outer.filterMap (·.frame))).get? L' with
      | none => rfl
      | some o => exact absurd (Heap.lt_size (of_hideAll _ z)) (by rw [hL]; exact Nat.lt_irrefl _)
    refine Halt.go (atLv (d := 600) (padded_raises (outer := envOf _ _ L' 251 _ :: outer) ⟨X.keeps FA.keep, p, loose, mean, mg, mb, T'.keeps FA.keep⟩
      (funFrames_hide (base := hideAll s.heap (outer.filterMap (·.frame))) (.cons (fun z => by cases z) rfl FA.ns hnew (K.of_keeps fun b o y _ => ⟨o, kE b o y, rfl⟩)) fun env he a hf => List.mem_filterMap.mpr ⟨env, he, hf⟩) (by omega) (by omega) fun e s' hF => ?_))
    obtain ⟨ea, a0, h2, tk, rfl, rfl, W, U⟩ := hF
    subst hEE
    refine Halt.go ⟨by omega, fun outer' e K' => ?_⟩
    cases e
    refine ⟨ea, a0, h2, tk, rfl, rfl, flyingW_base (fun q o y => hideAll_get _ (kE q o (of_hideAll _ y)) fun hm => ?_) W, (Heap.UpToSlots.of_keeps kE).trans U⟩
    obtain ⟨env, he, hf⟩ := List.mem_filterMap.mp hm
    rcases List.mem_cons.mp he with rfl | he
    · rw [← (Option.some.inj hf : L' = q)] at y
      rw [hnew] at y; cases y
    · rw [hideAll_none _ (List.mem_filterMap.mpr ⟨env, he, hf⟩)] at y; cases y
  refine Halt.go (atLv (d := 600) (padded_spec ⟨X.keeps FA.keep, p, loose, mean, mg, mb, T'.keeps FA.keep⟩ (by omega) (by omega) fun b9 t10 h10 tk10 hI9 k10 => ?_))
  have F10 := fr_ext FA k10
  have N10 : News g L' h10 _ := fun q hq => ⟨k10 _ _ (NA q hq).1, (NA q hq).2⟩
  clear FA NA k10
  k_steps
  rename Fr _ _ _ _ => FA
  rename News _ _ _ _ => NA
  have hI10 : KBw.bInts b9 = blockBody chain number (KBw.bInts rows) v0 v1 v2 birth (size.toNat - 16) := by
    have e : (size - 16 - (b8.size : Int)).toNat = size.toNat - 16 - 20 - rows.size := by omega
    rw [hI9, hI8, e]
    unfold blockBody
    rw [KBw.ints_length]
  have hl10 : (blockBody chain number (KBw.bInts rows) v0 v1 v2 birth (size.toNat - 16)).length ≤ 100 := by
    unfold blockBody
    simp only [List.length_append, dig_length, List.length_replicate, KBw.ints_length]; omega
  refine .cons (.stReturn (.evBinOp (.any ?_)))
  k_steps
  refine .callName ?_
  k_steps
  refine .calledWith (P := fun h => (hd.heap_1 w.params).In h) rfl (keeps_K (by k_is)) (.any ?_)
  refine evalArgs_kw2 (by rfl) ?_
  k_steps
  show wpP _ _ (call (.ref 244) [.bytes b9 _] []) _ _ _
  refine atLvP (d := 400) (sum_octets_spec ⟨X.keeps FA.keep, p, loose, mean, mg, mb, T'.keeps FA.keep⟩ hI10 hl10 fun c t11 h11 tk11 hc' k11 => ?_)
  have hc2 : KBw.bInts c = sumInts (blockBody chain number (KBw.bInts rows) v0 v1 v2 birth (size.toNat - 16)) := hc'
  have hl1 := congrArg List.length hI10
  have hl2 := congrArg List.length hc'
  rw [KBw.ints_length] at hl1 hl2
  simp only [List.length_append, dig_length] at hl2
  refine KBy.add_bytes (by omega) fun t12 k12 => ?_
  subst hg
  subst hQQ
  refine ⟨b9 ++ c, t12, h11, _, rfl, hfit, by rw [ints_append, hI10, hc2], fun q o e => k11 q o (ext_of_mu (mu := ptrObjs w.params x dx T S pl [a0, a1, a2, a3, a4, a5, a6, a7, a8, a9, a10] s0 s1 s2 s3 ka kb kc kd ke t1 t2 t3 u1 u2 u3 psize birth pchain v0 v1 v2) (fs := [x, dx, T, S, pl]) rfl FA (fun q hq => NA q (List.mem_append_right (sinkObjs sx sdx ba hs ts2 nn b8) hq)) hmu q o e), rfl⟩
end
section
-- part P18
local macro_rules | `(tactic| walk_at "call type:bytes") => `(tactic| refine Halt.mk ?_)
noncomputable def curObjs (P : Params) (x dx : Addr) (t1 t2 : Tok) (b : Array UInt8) (tb : Tok) (k : Int) (tk : Tok) : List (Addr × Obj) :=
  [(x, instObj 173 dx), (dx, dictOf [⟨PyData.keyHash P "octets", .str "octets" t1, .bytes b tb⟩, ⟨PyData.keyHash P "at", .str "at" t2, .int k tk⟩] 2)]
set_option maxHeartbeats 4000000 in
theorem cursor_left_spec {w : World} {fr : Option (List Env)} {s : Shared} {Q E : Value → Shared → Prop} {x dx : Addr} {t1 t2 tb ta : Tok} {b : Array UInt8} {k : Int}
    (hmu : ∀ q ∈ curObjs w.params x dx t1 t2 b tb k ta, s.heap.get? q.1 = some q.2) (G : Gd w (hideAll s.heap [x, dx])) (hne : @LT.lt Nat _ dx x) (hb : b.size ≤ 1000) (hk : 0 ≤ k ∧ k ≤ 1000)
    (ret : ∀ t h' tk, Ext s.heap h' → Q (.int ((b.size : Int) - k) t) { s with heap := h', toks := tk }) :
    wpAny (model PySem.Challenge.rw_pb0583_01.row.prog w) (LvA 600 fr) (call (.ref 149) [.ref x]) Q E s := by
  obtain ⟨X, p, loose, mean, mg, mb, T⟩ := G
  revert X; k_fill; intro X
  refine wpAny_call ?_
  refine' enterF (mu := curObjs w.params x dx t1 t2 b tb k ta) (fs := [x, dx]) (binds := [("self", .ref x)]) ?k0 rfl ?k1 ?k2 ?k3 ?k4 ?k5 ?k6 ?k7 ?_ ?c2 ?c3 ?c4 ?c5
  case k0 => exact hmu
  (k_dflt ((case k1 => k_asm); (case k2 => k_asm); (case k3 => k_is); (case k4 => k_is); (case k5 => exact Nat.le_of_ble_eq_true rfl); (case k6 => first | exact BindsTo.of_eq rfl | exact binds_K (by k_in) rfl (by k_is) rfl rfl rfl); (case k7 => exact locs rfl); (case c2 => exact rfl); (case c3 => exact rfl); (case c4 => exact rfl); (case c5 => decide)))
  intro L' h' F' N' l'
  clear l'
  generalize hg : hideAll s.heap [x, dx] = g at X T F' N'
  unfold curObjs at N'
  refine wpAny_mono (E := fun _ _ => False) (Q := fun fl s' => Halt (∃ t h' tk, fl = .ret (.int ((b.size : Int) - k) t) ∧ Ext s.heap h' ∧ s' = { s with heap := h', toks := tk })) ?_ (fun fl s' q => by obtain ⟨t, h', tk, rfl, e1, rfl⟩ := q; exact ret t h' tk e1) (fun _ _ q => q.elim)
  refine opqA fun QQ hQQ => ?_
  k_steps
  rename Fr _ _ _ _ => FA
  rename News _ _ _ _ => NA
  subst hg
  subst hQQ
  exact Halt.go ⟨_, _, _, rfl, ext_of_mu (mu := curObjs w.params x dx t1 t2 b tb k _) (fs := [x, dx]) rfl FA NA hmu, rfl⟩
set_option maxHeartbeats 4000000 in
theorem cursor_take_spec {w : World} {fr : Option (List Env)} {s : Shared} {Q E : Value → Shared → Prop} {x dx : Addr} {t1 t2 tb ta tm : Tok} {b : Array UInt8} {k m : Int}
    (hmu : ∀ q ∈ curObjs w.params x dx t1 t2 b tb k ta, s.heap.get? q.1 = some q.2) (G : Gd w (hideAll s.heap [x, dx])) (hne : @LT.lt Nat _ dx x) (hb : b.size ≤ 1000) (hk : 0 ≤ k) (hm : 0 ≤ m) (hkm : k + m ≤ b.size)
    (ret : ∀ c t tk' h' tkk, KBw.bInts c = ((KBw.bInts b).drop k.toNat).take m.toNat → Exo [dx] s.heap h' → (∀ q ∈ curObjs w.params x dx t1 t2 b tb (k + m) tk', h'.get? q.1 = some q.2) → Q (.bytes c t) { s with heap := h', toks := tkk }) :
    wpAny (model PySem.Challenge.rw_pb0583_01.row.prog w) (LvA 550 fr) (call (.ref 156) [.ref x, .int m tm]) Q E s := by
  obtain ⟨X, p, loose, mean, mg, mb, T⟩ := G
  revert X; k_fill; intro X
  refine wpAny_call ?_
  refine' enterF (mu := curObjs w.params x dx t1 t2 b tb k ta) (fs := [x, dx]) (binds := [("self", .ref x), ("many", .int m tm)]) ?k0 rfl ?k1 ?k2 ?k3 ?k4 ?k5 ?k6 ?k7 ?_ ?c2 ?c3 ?c4 ?c5
  case k0 => exact hmu
  (k_dflt ((case k1 => k_asm); (case k2 => k_asm); (case k3 => k_is); (case k4 => k_is); (case k5 => exact Nat.le_of_ble_eq_true rfl); (case k6 => first | exact BindsTo.of_eq rfl | exact binds_K (by k_in) rfl (by k_is) rfl rfl rfl); (case k7 => exact locs rfl); (case c2 => exact rfl); (case c3 => exact rfl); (case c4 => exact rfl); (case c5 => decide)))
  intro L' h' F' N' l'
  have hx1 := ltN (l' _ List.mem_cons_self)
  have hx2 := ltN (l' _ (List.mem_cons_of_mem _ List.mem_cons_self))
  dsimp only at hx1 hx2
  clear l'
  generalize hg : hideAll s.heap [x, dx] = g at X T F' N'
  unfold curObjs at N'
  refine wpAny_mono (E := fun _ _ => False) (Q := fun fl s' => Halt (∃ c t tk' h' tkk, fl = .ret (.bytes c t) ∧ KBw.bInts c = ((KBw.bInts b).drop k.toNat).take m.toNat ∧ Exo [dx] s.heap h' ∧ (∀ q ∈ curObjs w.params x dx t1 t2 b tb (k + m) tk', h'.get? q.1 = some q.2) ∧ s' = { s with heap := h', toks := tkk })) ?_
    (fun fl s' q => by obtain ⟨c, t, tk', h', tkk, rfl, e1, e2, e3, rfl⟩ := q; exact ret c t tk' h' tkk e1 e2 e3) (fun _ _ q => q.elim)
  refine opqA fun QQ hQQ => ?_
  k_steps
  rename Fr _ _ _ _ => FA
  rename News _ _ _ _ => NA
  refine Halt.go (atLv (d := 600) (cursor_left_spec (x := x) (dx := dx) (t1 := t1) (t2 := t2) (tb := tb) (ta := ta) (b := b) (k := k) (fun q hq => (NA q hq).1) (gd_hide (mu := curObjs w.params x dx t1 t2 b tb k ta) ⟨X, p, loose, mean, mg, mb, T⟩ FA NA) hne hb ⟨hk, by omega⟩ fun t h2 tk2 k2 => ?_))
  have F2 := fr_ext FA k2
  have N2 : News g L' h2 _ := fun q hq => ⟨k2 _ _ (NA q hq).1, (NA q hq).2⟩
  clear FA NA k2
  obtain ⟨ks, hks⟩ : ∃ ks, KBw.bInts b = ks := ⟨_, rfl⟩
  have hlen : ks.length ≤ 1000 := by rw [← hks, KBw.ints_length]; exact hb
  k_steps
  rename KBw.bInts (KBy.picked _ _ _) = _ => hK
  rename_i h9 t9 k9 F9 N9
  refine Halt.go (by_of_bytes fun t3 k3 => ?_)
  dsimp only
  k_steps
  rename Fr _ _ _ _ => FB
  rename News _ _ _ _ => NB
  have hbl : b.size = ks.length := by rw [← hks, KBw.ints_length]
  have c1 : ∀ i : Int, 0 ≤ i → i ≤ ks.length → clipAt ks.length i = i.toNat := fun i h0 h1 => by
    unfold clipAt; rw [if_neg (by omega)]; omega
  have hK2 : KBw.bInts (KBy.picked b (some k) (some (k + m))) = List.take (clipAt ks.length (k + m) - clipAt ks.length k) (List.drop (clipAt ks.length k) ks) := hK
  clear hK
  rw [c1 k hk (by omega), c1 (k + m) (by omega) (by omega)] at hK2
  have e1 : (k + m).toNat - k.toNat = m.toNat := by omega
  rw [e1] at hK2
  subst hg
  subst hQQ
  refine Halt.go ⟨_, _, _, _, _, rfl, by rw [hks]; exact hK2, fun q o n e => ?_, fun q hq => (NB q hq).1, rfl⟩
  by_cases hqx : q = x
  · have y1 := hmu _ List.mem_cons_self
    have y2 := NB _ List.mem_cons_self
    dsimp only at y1 y2
    rw [hqx] at e ⊢
    rw [← e, y1]; exact y2.1
  · exact FB.keep q o (hideAll_get _ e (by simp only [List.mem_cons, List.not_mem_nil, or_false, not_or]; exact ⟨hqx, fun z => n (by simp [z])⟩))
set_option maxHeartbeats 4000000 in
theorem cursor_number_spec {w : World} {fr : Option (List Env)} {s : Shared} {Q E : Value → Shared → Prop} {x dx : Addr} {t1 t2 tb ta tm : Tok} {b : Array UInt8} {k m : Int}
    (hmu : ∀ q ∈ curObjs w.params x dx t1 t2 b tb k ta, s.heap.get? q.1 = some q.2) (G : Gd w (hideAll s.heap [x, dx])) (hne : @LT.lt Nat _ dx x) (hb : b.size ≤ 1000) (hk : 0 ≤ k) (hm : 0 ≤ m) (hm7 : m ≤ 7) (hkm : k + m ≤ b.size)
    (ret : ∀ t tk' h' tkk, Exo [dx] s.heap h' → (∀ q ∈ curObjs w.params x dx t1 t2 b tb (k + m) tk', h'.get? q.1 = some q.2) → Q (.int (lev (((KBw.bInts b).drop k.toNat).take m.toNat)) t) { s with heap := h', toks := tkk }) :
    wpAny (model PySem.Challenge.rw_pb0583_01.row.prog w) (LvA 500 fr) (call (.ref 163) [.ref x, .int m tm]) Q E s := by
  obtain ⟨X, p, loose, mean, mg, mb, T⟩ := G
  revert X; k_fill; intro X
  refine wpAny_call ?_
  refine' enterF (mu := curObjs w.params x dx t1 t2 b tb k ta) (fs := [x, dx]) (binds := [("self", .ref x), ("size", .int m tm)]) ?k0 rfl ?k1 ?k2 ?k3 ?k4 ?k5 ?k6 ?k7 ?_ ?c2 ?c3 ?c4 ?c5
  case k0 => exact hmu
  (k_dflt ((case k1 => k_asm); (case k2 => k_asm); (case k3 => k_is); (case k4 => k_is); (case k5 => exact Nat.le_of_ble_eq_true rfl); (case k6 => first | exact BindsTo.of_eq rfl | exact binds_K (by k_in) rfl (by k_is) rfl rfl rfl); (case k7 => exact locs rfl); (case c2 => exact rfl); (case c3 => exact rfl); (case c4 => exact rfl); (case c5 => decide)))
  intro L' h' F' N' l'
  have lx := ltN (l' _ List.mem_cons_self)
  have ldx := ltN (l' _ (List.mem_cons_of_mem _ List.mem_cons_self))
  dsimp only at lx ldx
  clear l'
  generalize hg : hideAll s.heap [x, dx] = g at X T F' N'
  unfold curObjs at N'
  refine wpAny_mono (E := fun _ _ => False) (Q := fun fl s' => Halt (∃ t tk' h' tkk, fl = .ret (.int (lev (((KBw.bInts b).drop k.toNat).take m.toNat)) t) ∧ Exo [dx] s.heap h' ∧ (∀ q ∈ curObjs w.params x dx t1 t2 b tb (k + m) tk', h'.get? q.1 = some q.2) ∧ s' = { s with heap := h', toks := tkk })) ?_
    (fun fl s' q => by obtain ⟨t, tk', h', tkk, rfl, e2, e3, rfl⟩ := q; exact ret t tk' h' tkk e2 e3) (fun _ _ q => q.elim)
  refine opqA fun QQ hQQ => ?_
  k_steps
  rename Fr _ _ _ _ => FA
  rename News _ _ _ _ => NA
  refine Halt.go (atLv (d := 550) (cursor_take_spec (x := x) (dx := dx) (t1 := t1) (t2 := t2) (tb := tb) (ta := ta) (b := b) (k := k) (fun q hq => (NA q hq).1) (gd_hide (mu := curObjs w.params x dx t1 t2 b tb k ta) ⟨X, p, loose, mean, mg, mb, T⟩ FA NA) hne hb hk hm hkm fun c t tk' h2 tk2 e1 e2 e3 => ?_))
  have F2 := fr_exo FA e2 (fun q hq => by rw [List.mem_singleton.mp hq]; exact ⟨(NA _ (List.mem_cons_of_mem _ List.mem_cons_self)).2.2, (NA _ (List.mem_cons_of_mem _ List.mem_cons_self)).2.1⟩)
  dsimp only at e2
  k_steps
  refine Halt.go (atLv (d := 600) (number_of_spec ⟨X.keeps F2.keep, p, loose, mean, mg, mb, T.keeps F2.keep⟩ e1 (by rw [List.length_take]; omega) fun v t' h3 tk3 hv k3 => ?_))
  subst hg
  subst hQQ
  exact Halt.go ⟨t', tk', h3, tk3, by rw [hv], fun q o n e => k3 q o (e2 q o n (ext_of_mu (mu := curObjs w.params x dx t1 t2 b tb k ta) (fs := [x, dx]) rfl FA NA hmu q o e)), fun q hq => k3 _ _ (e3 q hq), rfl⟩
set_option maxHeartbeats 4000000 in
theorem cursor_init_spec {w : World} {fr : Option (List Env)} {s : Shared} {R : Result → Shared → Prop} {x dx : Addr} {b : Array UInt8} {tb : Tok}
    (hx : s.heap.get? x = some (instObj 173 dx)) (hdx : s.heap.get? dx = some (dictOf [] 0)) (hne : dx < x) (G : Gd w (hideAll s.heap [x, dx]))
    (ret : ∀ t1 t2 ta h' tk, (∀ q ∈ curObjs w.params x dx t1 t2 b tb 0 ta, h'.get? q.1 = some q.2) → Exo [x, dx] s.heap h' → R (.ok (.ret .none)) { s with heap := h', toks := tk }) :
    codeAny (model PySem.Challenge.rw_pb0583_01.row.prog w) (LvA 500 fr) (.call (.ref 142) ⟨[.ref x, .bytes b tb], []⟩) R s := by
  obtain ⟨X, p, loose, mean, mg, mb, T⟩ := G
  revert X; k_fill; intro X
  refine' enterF (mu := [(x, instObj 173 dx), (dx, dictOf [] 0)]) (fs := [x, dx]) (binds := [("self", .ref x), ("octets", .bytes b tb), ("at", .int 0 361)]) ?k0 rfl ?k1 ?k2 ?k3 ?k4 ?k5 ?k6 ?k7 ?_ ?c2 ?c3 ?c4 ?c5
  case k0 => exact List.forall_mem_cons.mpr ⟨hx, List.forall_mem_cons.mpr ⟨hdx, List.forall_mem_nil _⟩⟩
  k_dflt ((case k1 => k_asm); (case k2 => k_asm); (case k3 => k_is); (case k4 => k_is); (case k5 => exact Nat.le_of_ble_eq_true rfl); (case k6 => exact binds_K (X.keeps fun b o e => of_hideAll _ e) rfl (by k_is) rfl rfl rfl); (case k7 => exact locs rfl); (case c2 => exact rfl); (case c3 => exact rfl); (case c4 => exact rfl); (case c5 => decide))
  intro L' h' F' N' l'
  replace hne := ltN hne
  have hx1 := ltN (l' _ List.mem_cons_self)
  have hx2 := ltN (l' _ (List.mem_cons_of_mem _ List.mem_cons_self))
  dsimp only at hx1 hx2
  clear l'
  generalize hg : hideAll s.heap [x, dx] = g at X T F' N'
  refine wpAny_mono (E := fun _ _ => False) (Q := fun fl s' => fl = .next ∧ Halt (R (.ok (.ret .none)) s')) ?_ (fun fl s' q => by rw [q.1]; exact q.2) (fun _ _ q => q.elim)
  k_steps
  rename Fr _ _ _ _ => FB
  rename News _ _ _ _ => NB
  subst hg
  exact Halt.go (ret _ _ _ _ _ (fun q hq => (NB q hq).1) (exo_hide FB.keep))
end
section
-- part P19
local macro_rules | `(tactic| walk_at "call type:bytes") => `(tactic| refine Halt.mk ?_)
theorem cur_step {P : Params} {g h h' : Heap} {L x dx : Addr} {t1 t2 tb ta tc : Tok} {b : Array UInt8} {k k' : Int} {m : Str → Option Value} {rest : List (Addr × Obj)} (F : Fr g L h m) (N : News g L h (curObjs P x dx t1 t2 b tb k ta ++ rest))
    (e : Exo [dx] h h') (ho : ∀ q ∈ curObjs P x dx t1 t2 b tb k' tc, h'.get? q.1 = some q.2) (hr : ∀ q ∈ rest, q.1 ≠ dx) : Fr g L h' m ∧ News g L h' (curObjs P x dx t1 t2 b tb k' tc ++ rest) := by
  have y1 := N _ List.mem_cons_self
  have y2 := N _ (List.mem_cons_of_mem _ List.mem_cons_self)
  dsimp only at y1 y2
  refine ⟨fr_exo F e fun q hq => by rw [List.mem_singleton.mp hq]; exact y2.2.symm, ?_⟩
  refine List.forall_mem_cons.mpr ⟨⟨ho _ List.mem_cons_self, y1.2⟩, List.forall_mem_cons.mpr ⟨⟨ho _ (List.mem_cons_of_mem _ List.mem_cons_self), y2.2⟩, fun q hq => ?_⟩⟩
  have y3 := N q (List.mem_cons_of_mem _ (List.mem_cons_of_mem _ hq))
  exact ⟨e _ _ (fun z => hr q hq (List.mem_singleton.mp z)) y3.1, y3.2⟩
theorem cut_cut {ks : List Int} {a c m : Nat} (h : a + c ≤ m) : ((ks.take m).drop a).take c = (ks.drop a).take c := by
  rw [List.drop_take, List.take_take, Nat.min_eq_left (by omega)]
theorem ints_inj {a b : Array UInt8} (e : KBw.bInts a = KBw.bInts b) : a.toList = b.toList := by
  unfold KBw.bInts at e
  exact List.map_inj_right (fun x y h => UInt8.toNat_inj.mp (Int.ofNat_inj.mp h)) |>.mp e
/-- a told block: the pair of its rows and its pointer, all new -/
def Told (P : Params) (g h : Heap) (size chain : Int) (v : Value) (r : List Int × (Int × Int × Int) × Int) : Prop :=
  ∃ (D x dx T S pl : Addr) (ts : List Tok) (s0 s1 s2 s3 ka kb kc kd ke t1 t2 t3 u1 u2 u3 tc : Tok) (c : Array UInt8), v = .ref D ∧ ts.length = 11 ∧ KBw.bInts c = r.1 ∧
    ∀ q ∈ (D, ({ cls := .type "tuple", data := .seq #[.bytes c tc, .ref x] } : Obj)) :: ptrObjs P x dx T S pl ts s0 s1 s2 s3 ka kb kc kd ke t1 t2 t3 u1 u2 u3 size r.2.2 chain r.2.1.1 r.2.1.2.1 r.2.1.2.2, h.get? q.1 = some q.2 ∧ g.get? q.1 = Option.none
set_option maxHeartbeats 4000000 in
theorem block_of_spec {w : World} {fr : Option (List Env)} {s : Shared} {Q E : Value → Shared → Prop} {b : Array UInt8} {tb w1 w2 : Tok} {ks : List Int} {chain number : Int}
    (G : Gd w s.heap) (hk : KBw.bInts b = ks) (hb : ks.length ≤ 100)
    (none : parseB ks chain number = none → ∀ h' tk, Ext s.heap h' → Q .none { s with heap := h', toks := tk })
    (some' : ∀ r v h' tk, parseB ks chain number = some r → Told w.params s.heap h' ks.length chain v r → Ext s.heap h' → Q v { s with heap := h', toks := tk }) :
    wpP (model PySem.Challenge.rw_pb0583_01.row.prog w) (LvA 350 fr) (call (.ref 294) [.bytes b tb, .int chain w1, .int number w2]) Q E s := by
  obtain ⟨X, p, loose, mean, mg, mb, T⟩ := G
  revert X; k_fill; intro X
  refine .called ?_
  refine' enterPP (binds := [("octets", .bytes b tb), ("chain", .int chain w1), ("number", .int number w2)]) ?k1 ?k2 ?k3 ?k4 ?k5 ?k6 ?k7 ?_ ?c2 ?c3 ?c4 ?c5
  (k_dflt ((case k1 => k_asm); (case k2 => k_asm); (case k3 => k_is); (case k4 => k_is); (case k5 => exact Nat.le_of_ble_eq_true rfl); (case k6 => first | exact BindsTo.of_eq rfl | exact binds_K (by k_in) rfl (by k_is) rfl rfl rfl); (case k7 => exact locs rfl); (case c2 => exact rfl); (case c3 => exact rfl); (case c4 => exact rfl); (case c5 => decide)))
  intro L' h' F' N'
  have hsz : b.size = ks.length := by rw [← hk, KBw.ints_length]
  refine wpP.mono (E := fun _ _ => False) (Q := fun fl s' => Halt (∃ v h' tk, fl = .ret v ∧ Ext s.heap h' ∧ s' = { s with heap := h', toks := tk } ∧ ((v = .none ∧ parseB ks chain number = Option.none) ∨ ∃ r, parseB ks chain number = some r ∧ Told w.params s.heap h' ks.length chain v r))) ?_
    (fun fl s' q => by obtain ⟨v, h', tk, rfl, e1, rfl, ⟨rfl, e2⟩ | ⟨r, z1, z2⟩⟩ := q; · exact none e2 h' tk e1
                       · exact some' r v h' tk z1 z2 e1) (fun _ _ q => q.elim)
  refine opqP fun QQ hQQ => ?_
  refine .step ?_
  k_steps
  dsimp only
  by_cases h36 : ks.length < 36
  · have hp : parseB ks chain number = Option.none := by unfold parseB; rw [if_pos h36]
    refine .step ?_
    k_steps
    rename Fr _ _ _ _ => FA
    subst hQQ
    exact Halt.go ⟨_, _, _, rfl, FA.keep, rfl, .inl ⟨rfl, hp⟩⟩
  · refine .cons (.stIf (.isBool (.isOr (.any ?_))))
    k_steps
    refine .isOr (.isCompare (.callName ?_))
    have hlen : ks.length ≤ 1000 := by omega
    k_steps
    rename Fr _ _ _ _ => FA
    refine .calledWith (P := fun h => (hd.heap_1 w.params).In h) rfl (keeps_K (by k_is)) (.any ?_)
    refine evalArgs_kw2 (by rfl) ?_
    k_steps
    rename KBw.bInts (KBy.picked _ _ _) = _ => hK
    rename_i h9 t9 k9 F9 N9
    have c1 : ∀ i : Int, 0 ≤ i → i ≤ ks.length → clipAt ks.length i = i.toNat := fun i h0 h1 => by
      unfold clipAt; rw [if_neg (by omega)]; omega
    have hK2 : KBw.bInts (KBy.picked b Option.none (some ((ks.length : Int) - 16))) = ks.take (ks.length - 16) := by
      have hK3 : KBw.bInts (KBy.picked b Option.none (some ((ks.length : Int) - 16))) = List.take (clipAt ks.length ((ks.length : Int) - 16) - 0) (List.drop 0 ks) := hK
      rw [hK3, c1 _ (by omega) (by omega), List.drop_zero]
      congr 1; omega
    clear hK
    show wpP _ _ (call (.ref 244) [.bytes (KBy.picked b Option.none (some ((ks.length : Int) - 16))) _] []) _ _ _
    refine atLvP (d := 400) (sum_octets_spec ⟨X.keeps F9.keep, p, loose, mean, mg, mb, T.keeps F9.keep⟩ hK2 (by rw [List.length_take]; omega) fun c tc h10 tk10 hc k10 => ?_)
    have hc2 : KBw.bInts c = sumInts (ks.take (ks.length - 16)) := hc
    have F10 := fr_ext F9 k10
    have N10 : News s.heap L' h10 [] := News.nil
    clear hc F9 N9 k10
    dsimp only
    k_steps
    · rename (_ != _) = true => hne
      rename KBw.bInts (KBy.picked _ _ _) = List.take (_ - _) _ => hK5
      have hp : parseB ks chain number = Option.none := by
        unfold parseB
        rw [if_neg h36, if_pos]
        intro z
        rw [c1 _ (by omega) (by omega)] at hK5
        have hn2 : ((ks.length : Int) - 16).toNat = ks.length - 16 := by omega
        rw [hn2, List.take_of_length_le (by rw [List.length_drop]; omega), ← z, ← hc2] at hK5
        rw [bne_iff_ne] at hne
        exact hne (ints_inj hK5).symm
      refine .step ?_
      k_steps
      rename Fr _ _ _ _ => FA
      subst hQQ
      exact Halt.go ⟨_, _, _, rfl, FA.keep, rfl, .inl ⟨rfl, hp⟩⟩
    · rename (_ != _) = false => heq
      rename KBw.bInts (KBy.picked _ _ _) = List.take (_ - _) _ => hK5
      have hsum : sumInts (ks.take (ks.length - 16)) = ks.drop (ks.length - 16) := by
        rw [c1 _ (by omega) (by omega)] at hK5
        have hn2 : ((ks.length : Int) - 16).toNat = ks.length - 16 := by omega
        rw [hn2, List.take_of_length_le (by rw [List.length_drop]; omega)] at hK5
        rw [← hK5, ← hc2]
        unfold KBw.bInts
        rw [bne_eq_false_iff_eq.mp heq]
      clear hK5 heq
      refine .isOrNil ?_
      dsimp only
      rw [if_neg Bool.false_ne_true]
      refine .nil ?_
      dsimp only
      clear hc2
      refine .any ?_
      k_steps
      rename Fr _ _ _ _ => FA
      rename News _ _ _ _ => NA
      refine Halt.go (call_cls FA X NA (by k_is) (by k_is) (by k_is) fun x dx h11 F11 N11 l1 lx => ?_)
      have x1 := (N11 _ List.mem_cons_self)
      have x2 := (N11 _ (List.mem_cons_of_mem _ List.mem_cons_self))
      dsimp only at x1 x2
      refine codeAny_up (A' := LvA 500 _) (cursor_init_spec x1.1 x2.1 lx (gd_hide ⟨X, p, loose, mean, mg, mb, T⟩ F11 N11) fun t1 t2 ta h12 tk12 e1 e2 => ?_) rfl (Nat.le_of_ble_eq_true rfl) rfl rfl (Nat.le_of_ble_eq_true rfl)
      refine ⟨rfl, ?_⟩
      have F12 := fr_exo F11 e2 (fun q hq => by
        simp only [List.mem_cons, List.not_mem_nil, or_false] at hq
        rcases hq with rfl | rfl
        · exact ⟨x1.2.2, x1.2.1⟩
        · exact ⟨x2.2.2, x2.2.1⟩)
      have N12 : News s.heap L' h12 (curObjs w.params x dx t1 t2 _ _ 0 ta) := fun q hq => ⟨e1 q hq, by
        simp only [curObjs, List.mem_cons, List.not_mem_nil, or_false] at hq
        rcases hq with rfl | rfl
        · exact ⟨x1.2.1, x1.2.2⟩
        · exact ⟨x2.2.1, x2.2.2⟩⟩
      clear F11 N11 FA NA e1 e2 l1
      unfold curObjs at N12
      dsimp only
      k_steps
      rename Fr _ _ _ _ => FA
      rename News _ _ _ _ => NA
      have hpl : (KBy.picked b Option.none (some ((ks.length : Int) - 16))).size = ks.length - 16 := by
        rw [← KBw.ints_length, hK2, List.length_take]; omega
      generalize KBy.picked b Option.none (some ((ks.length : Int) - 16)) = bb at hK2 hpl NA ⊢
      have hne := ltN lx
      refine Halt.go (atLv (d := 500) (cursor_number_spec (x := x) (dx := dx) (t1 := t1) (t2 := t2) (b := bb) (k := 0) (m := 4) (ta := ta) (fun q hq => (NA q hq).1) (gd_hide (mu := curObjs w.params x dx t1 t2 bb _ 0 ta) ⟨X, p, loose, mean, mg, mb, T⟩ FA NA) hne (by omega) (by omega) (by omega) (by omega) (by omega) fun tv ta2 h13 tk13 e1 e2 => ?_))
      have hv1 : lev (((KBw.bInts bb).drop (0 : Int).toNat).take (4 : Int).toNat) = lev ((ks.drop 0).take 4) := by
        rw [hK2]; exact congrArg lev (cut_cut (a := 0) (c := 4) (by omega))
      rw [hv1]
      clear hv1
      obtain ⟨FB, NB⟩ := cur_step (rest := []) FA NA e1 e2 (fun q hq => by cases hq)
      clear FA NA e1 e2
      dsimp only [curObjs, List.cons_append, List.nil_append] at FB NB ⊢
      generalize hV1 : lev ((ks.drop 0).take 4) = V1
      k_steps
      · rename _ ≠ _ => hc1
        have hp : parseB ks chain number = Option.none := by
          unfold parseB
          rw [if_neg h36, if_neg (fun z => z hsum), if_pos (by rw [hV1]; exact hc1)]
        rename Fr _ _ _ _ => FA
        subst hQQ
        exact Halt.go ⟨_, _, _, rfl, FA.keep, rfl, .inl ⟨rfl, hp⟩⟩
      rename _ = chain => hc1
      rename Fr _ _ _ _ => FA
      rename News _ _ _ _ => NA
      refine Halt.go (atLv (d := 500) (cursor_number_spec (x := x) (dx := dx) (t1 := t1) (t2 := t2) (b := bb) (k := 4) (m := 3) (ta := ta2) (fun q hq => (NA q hq).1) (gd_hide (mu := curObjs w.params x dx t1 t2 bb _ 4 ta2) ⟨X, p, loose, mean, mg, mb, T⟩ FA NA) hne (by omega) (by omega) (by omega) (by omega) (by omega) fun tv2 ta3 h14 tk14 e1 e2 => ?_))
      have hv2 : lev (((KBw.bInts bb).drop (4 : Int).toNat).take (3 : Int).toNat) = lev ((ks.drop 4).take 3) := by
        rw [hK2]; exact congrArg lev (cut_cut (a := 4) (c := 3) (by omega))
      rw [hv2]
      clear hv2
      obtain ⟨FB, NB⟩ := cur_step (rest := []) FA NA e1 e2 (fun q hq => by cases hq)
      clear FA NA e1 e2
      dsimp only [curObjs, List.cons_append, List.nil_append] at FB NB ⊢
      generalize hV2 : lev ((ks.drop 4).take 3) = V2
      k_steps
      · rename _ ≠ _ => hc2
        have hp : parseB ks chain number = Option.none := by
          unfold parseB
          rw [if_neg h36, if_neg (fun z => z hsum), if_neg (fun z => z (hV1.trans hc1)), if_pos (by rw [hV2]; exact hc2)]
        rename Fr _ _ _ _ => FA
        subst hQQ
        exact Halt.go ⟨_, _, _, rfl, FA.keep, rfl, .inl ⟨rfl, hp⟩⟩
      rename _ = number => hc2
      rename Fr _ _ _ _ => FA
      rename News _ _ _ _ => NA
      refine Halt.go (atLv (d := 500) (cursor_number_spec (x := x) (dx := dx) (t1 := t1) (t2 := t2) (b := bb) (k := 7) (m := 2) (ta := ta3) (fun q hq => (NA q hq).1) (gd_hide (mu := curObjs w.params x dx t1 t2 bb _ 7 ta3) ⟨X, p, loose, mean, mg, mb, T⟩ FA NA) hne (by omega) (by omega) (by omega) (by omega) (by omega) fun tv3 ta4 hh0 tkk0 e1 e2 => ?_))
      have hv : lev (((KBw.bInts bb).drop (7 : Int).toNat).take (2 : Int).toNat) = lev ((ks.drop 7).take 2) := by
        rw [hK2]; exact congrArg lev (cut_cut (a := 7) (c := 2) (by omega))
      rw [hv]
      clear hv
      obtain ⟨FB, NB⟩ := cur_step (rest := []) FA NA e1 e2 (fun q hq => by cases hq)
      clear FA NA e1 e2
      dsimp only [curObjs, List.cons_append, List.nil_append] at FB NB ⊢
      generalize hV3 : lev ((ks.drop 7).take 2) = V3
      k_steps
      rename Fr _ _ _ _ => FA
      rename News _ _ _ _ => NA
      refine Halt.go (atLv (d := 500) (cursor_number_spec (x := x) (dx := dx) (t1 := t1) (t2 := t2) (b := bb) (k := 9) (m := 1) (ta := ta4) (fun q hq => (NA q hq).1) (gd_hide (mu := curObjs w.params x dx t1 t2 bb _ 9 ta4) ⟨X, p, loose, mean, mg, mb, T⟩ FA NA) hne (by omega) (by omega) (by omega) (by omega) (by omega) fun tv4 ta5 hh1 tkk1 e1 e2 => ?_))
      have hv : lev (((KBw.bInts bb).drop (9 : Int).toNat).take (1 : Int).toNat) = lev ((ks.drop 9).take 1) := by
        rw [hK2]; exact congrArg lev (cut_cut (a := 9) (c := 1) (by omega))
      rw [hv]
      clear hv
      obtain ⟨FB, NB⟩ := cur_step (rest := []) FA NA e1 e2 (fun q hq => by cases hq)
      clear FA NA e1 e2
      dsimp only [curObjs, List.cons_append, List.nil_append] at FB NB ⊢
      generalize hV4 : lev ((ks.drop 9).take 1) = V4
      k_steps
      rename Fr _ _ _ _ => FA
      rename News _ _ _ _ => NA
      refine Halt.go (atLv (d := 500) (cursor_number_spec (x := x) (dx := dx) (t1 := t1) (t2 := t2) (b := bb) (k := 10) (m := 4) (ta := ta5) (fun q hq => (NA q hq).1) (gd_hide (mu := curObjs w.params x dx t1 t2 bb _ 10 ta5) ⟨X, p, loose, mean, mg, mb, T⟩ FA NA) hne (by omega) (by omega) (by omega) (by omega) (by omega) fun tv5 ta6 hh2 tkk2 e1 e2 => ?_))
      have hv : lev (((KBw.bInts bb).drop (10 : Int).toNat).take (4 : Int).toNat) = lev ((ks.drop 10).take 4) := by
        rw [hK2]; exact congrArg lev (cut_cut (a := 10) (c := 4) (by omega))
      rw [hv]
      clear hv
      obtain ⟨FB, NB⟩ := cur_step (rest := []) FA NA e1 e2 (fun q hq => by cases hq)
      clear FA NA e1 e2
      dsimp only [curObjs, List.cons_append, List.nil_append] at FB NB ⊢
      generalize hV5 : lev ((ks.drop 10).take 4) = V5
      k_steps
      rename Fr _ _ _ _ => FA
      rename News _ _ _ _ => NA
      refine Halt.go (atLv (d := 500) (cursor_number_spec (x := x) (dx := dx) (t1 := t1) (t2 := t2) (b := bb) (k := 14) (m := 2) (ta := ta6) (fun q hq => (NA q hq).1) (gd_hide (mu := curObjs w.params x dx t1 t2 bb _ 14 ta6) ⟨X, p, loose, mean, mg, mb, T⟩ FA NA) hne (by omega) (by omega) (by omega) (by omega) (by omega) fun tv6 ta7 hh3 tkk3 e1 e2 => ?_))
      have hv : lev (((KBw.bInts bb).drop (14 : Int).toNat).take (2 : Int).toNat) = lev ((ks.drop 14).take 2) := by
        rw [hK2]; exact congrArg lev (cut_cut (a := 14) (c := 2) (by omega))
      rw [hv]
      clear hv
      obtain ⟨FB, NB⟩ := cur_step (rest := []) FA NA e1 e2 (fun q hq => by cases hq)
      clear FA NA e1 e2
      dsimp only [curObjs, List.cons_append, List.nil_append] at FB NB ⊢
      generalize hV6 : lev ((ks.drop 14).take 2) = V6
      k_steps
      rename Fr _ _ _ _ => FA
      rename News _ _ _ _ => NA
      rename_i D9 h9 lD h9x
      have ND := NA _ List.mem_cons_self
      have NC : News s.heap L' _ (curObjs w.params x dx t1 t2 bb _ 16 ta7 ++ [(_, _)]) := fun q hq => (List.mem_append.mp hq).elim (fun z => NA q (List.mem_cons_of_mem _ z)) fun z => by rw [List.mem_singleton.mp z]; exact ND
      refine Halt.go (atLv (d := 500) (cursor_number_spec (x := x) (dx := dx) (t1 := t1) (t2 := t2) (b := bb) (k := 16) (m := 4) (ta := ta7) (fun q hq => (NC q (List.mem_append_left _ hq)).1) (gd_hide (mu := curObjs w.params x dx t1 t2 bb _ 16 ta7) ⟨X, p, loose, mean, mg, mb, T⟩ FA (fun q hq => NC q (List.mem_append_left _ hq))) hne (by omega) (by omega) (by omega) (by omega) (by omega) fun tv7 ta8 hh7 tkk7 e1 e2 => ?_))
      have hv : lev (((KBw.bInts bb).drop (16 : Int).toNat).take (4 : Int).toNat) = lev ((ks.drop 16).take 4) := by
        rw [hK2]; exact congrArg lev (cut_cut (a := 16) (c := 4) (by omega))
      rw [hv]
      clear hv
      obtain ⟨FB, NB⟩ := cur_step FA NC e1 e2 (fun q hq => by rw [List.mem_singleton.mp hq]; exact Nat.ne_of_gt lD.2)
      clear FA NA NC ND e1 e2
      dsimp only [curObjs, List.cons_append, List.nil_append] at FB NB ⊢
      generalize hV7 : lev ((ks.drop 16).take 4) = V7
      k_steps
      rename Fr _ _ _ _ => FA
      rename News _ _ _ _ => NA
      have sN : ∀ q, Heap.get? _ q = Option.none → s.heap.get? q = Option.none := fun q e => by
        cases z : s.heap.get? q with
        | none => rfl
        | some o => have := FA.keep q o z; rw [e] at this; cases this
      refine Halt.go (atLv (d := 450) (log_pointer_spec ⟨X.keeps FA.keep, p, loose, mean, mg, mb, T.keeps FA.keep⟩ fun px pdx pT pS pts s0 s1 s2 s3 ka kb kc kd ke h20 tk20 hpo hpts k20 => ?_))
      dsimp only at hpo k20
      have F20 := fr_ext FA k20
      have N20 := News.app (news_of FA hpo) (fun q hq => ⟨k20 _ _ (NA q hq).1, (NA q hq).2⟩)
      have hpn : ∀ q ∈ ([(px, instObj 276 pdx), (pdx, _), (pT, _), (pS, _)] : List (Addr × Obj)), q.1 ≠ dx := fun q hq z => by
        have y1 := (hpo q hq).2
        have y2 := (NA _ (List.mem_cons_of_mem _ List.mem_cons_self)).1
        dsimp only at y2
        rw [z] at y1
        rw [y1] at y2; cases y2
      have hDn : D9 ≠ dx := Nat.ne_of_gt lD.2
      clear FA NA k20 sN
      dsimp only [List.cons_append, List.nil_append] at N20
      k_steps
      rename Fr _ _ _ _ => FA
      rename News _ _ _ _ => NA
      have NC : News s.heap L' _ (curObjs w.params x dx t1 t2 bb _ (16 + 4) ta8) := fun q hq => NA q (List.mem_cons_of_mem _ (List.mem_cons_of_mem _ (List.mem_cons_of_mem _ (List.mem_cons_of_mem _ (List.mem_append_left [_] hq)))))
      refine Halt.go (atLv (d := 600) (cursor_left_spec (x := x) (dx := dx) (t1 := t1) (t2 := t2) (b := bb) (k := 16 + 4) (ta := ta8) (fun q hq => (NC q hq).1) (gd_hide (mu := curObjs w.params x dx t1 t2 bb _ (16 + 4) ta8) ⟨X, p, loose, mean, mg, mb, T⟩ FA NC) hne (by omega) ⟨by omega, by omega⟩ fun tl h21 tk21 k21 => ?_))
      dsimp only at k21
      have F21 := fr_ext FA k21
      have N21 : News s.heap L' h21 _ := fun q hq => ⟨k21 _ _ (NA q hq).1, (NA q hq).2⟩
      clear FA NA NC k21
      k_steps
      · rename _ < _ => hc3
        have hp : parseB ks chain number = Option.none := by
          unfold parseB
          rw [if_neg h36, if_neg (fun z => z hsum), if_neg (fun z => z (hV1.trans hc1)), if_neg (fun z => z (hV2.trans hc2)), if_pos (by rw [hV3]; omega)]
        rename Fr _ _ _ _ => FA
        subst hQQ
        exact Halt.go ⟨_, _, _, rfl, FA.keep, rfl, .inl ⟨rfl, hp⟩⟩
      rename ¬ (_ < _) => hc3
      rename Fr _ _ _ _ => FA
      rename News _ _ _ _ => NA
      have hV0 : 0 ≤ V3 := by
        rw [← hV3]
        exact (lev_bound fun k z => KBw.ints_in (b := b) (by rw [hk]; exact List.mem_of_mem_drop (List.mem_of_mem_take z))).1
      have NC : News s.heap L' _ (curObjs w.params x dx t1 t2 bb _ (16 + 4) ta8) := fun q hq => NA q (List.mem_cons_of_mem _ (List.mem_cons_of_mem _ (List.mem_cons_of_mem _ (List.mem_cons_of_mem _ (List.mem_append_left [_] hq)))))
      refine Halt.go (atLv (d := 550) (cursor_take_spec (x := x) (dx := dx) (t1 := t1) (t2 := t2) (b := bb) (k := 16 + 4) (m := V3) (ta := ta8) (fun q hq => (NC q hq).1) (gd_hide (mu := curObjs w.params x dx t1 t2 bb _ (16 + 4) ta8) ⟨X, p, loose, mean, mg, mb, T⟩ FA NC) hne (by omega) (by omega) hV0 (by omega) fun c tc tkc h23 tk23 e0 e1 e2 => ?_))
      have ydx := NC _ (List.mem_cons_of_mem _ List.mem_cons_self)
      dsimp only at e1 ydx
      have F23 := fr_exo FA e1 (fun q hq => by rw [List.mem_singleton.mp hq]; exact ⟨ydx.2.2, ydx.2.1⟩)
      have N23 : News s.heap L' h23 ([(px, instObj 276 pdx), (pdx, _), (pT, _), (pS, _)] ++ [((D9 : Addr), (_ : Obj))]) := fun q hq => by
        rcases List.mem_append.mp hq with z | z
        · exact ⟨e1 _ _ (fun y => hpn q z (List.mem_singleton.mp y)) (NA q (List.mem_append_left _ z)).1, (NA q (List.mem_append_left _ z)).2⟩
        · have zz := NA q (List.mem_append_right [_, _, _, _] (List.mem_cons_of_mem _ (List.mem_cons_of_mem _ z)))
          rw [List.mem_singleton.mp z] at zz ⊢
          exact ⟨e1 _ _ (fun y => hDn (List.mem_singleton.mp y)) zz.1, zz.2⟩
      clear FA NA NC ydx e1 e2
      have hp : parseB ks chain number = some ((ks.drop 20).take V3.toNat, (V4, V5, V6), V7) := by
        unfold parseB
        rw [if_neg h36, if_neg (fun z => z hsum), if_neg (fun z => z (hV1.trans hc1)), if_neg (fun z => z (hV2.trans hc2)), if_neg (by rw [hV3]; omega), hV3, hV4, hV5, hV6, hV7]
      have hbc : KBw.bInts c = (ks.drop 20).take V3.toNat := by
        rw [e0, hK2]; exact cut_cut (a := 20) (by omega)
      clear e0
      dsimp only [List.cons_append, List.nil_append] at N23
      k_steps
      rename Fr _ _ _ _ => FA
      rename News _ _ _ _ => NA
      subst hQQ
      exact Halt.go ⟨_, _, _, rfl, FA.keep, rfl, .inr ⟨_, hp, _, px, pdx, pT, pS, D9, pts, _, _, _, _, _, _, _, _, _, _, _, _, _, _, _, _, c, rfl, hpts, hbc, fun q hq => ⟨(NA q hq).1, (NA q hq).2.2⟩⟩⟩
end
section
-- part P20
set_option maxHeartbeats 4000000 in
theorem plain_spec {w : World} {fr : Option (List Env)} {s : Shared} {Q E : Value → Shared → Prop} {x dx : Addr} {ts : List Tok} {T S : Addr} {i0 i1 i2 i3 i4 i5 i6 i7 i8 : Int} {j0 j1 j2 j3 j4 j5 j6 j7 j8 : Tok}
    (hmu : ∀ q ∈ ([(x, instObj 276 dx), (dx, dictOf (ptrEnts w.params ts [.ref T, .int i0 j0, .int i1 j1, .int i2 j2, .int i3 j3, .int i4 j4, .int i5 j5, .int i6 j6, .int i7 j7, .ref S, .int i8 j8]) 11)] : List (Addr × Obj)), s.heap.get? q.1 = some q.2) (hts : ts.length = 11) (G : Gd w (hideAll s.heap [x, dx]))
    (ret : ∀ D h' tk, h'.get? D = some { cls := .type "tuple", data := .seq #[.ref T, .int i0 j0, .int i1 j1, .int i2 j2, .int i3 j3, .int i4 j4, .int i5 j5, .int i6 j6, .int i7 j7, .ref S, .int i8 j8] } → s.heap.get? D = none → Ext s.heap h' → Q (.ref D) { s with heap := h', toks := tk }) :
    wpAny (model PySem.Challenge.rw_pb0583_01.row.prog w) (LvA 450 fr) (call (.ref 273) [.ref x]) Q E s := by
  obtain ⟨X, p, loose, mean, mg, mb, T'⟩ := G
  revert X; k_fill; intro X
  obtain ⟨a0, a1, a2, a3, a4, a5, a6, a7, a8, a9, a10, rfl⟩ := eleven hts
  refine wpAny_call ?_
  refine' enterF (mu := [(x, instObj 276 dx), (dx, dictOf (ptrEnts w.params [a0, a1, a2, a3, a4, a5, a6, a7, a8, a9, a10] [.ref T, .int i0 j0, .int i1 j1, .int i2 j2, .int i3 j3, .int i4 j4, .int i5 j5, .int i6 j6, .int i7 j7, .ref S, .int i8 j8]) 11)]) (fs := [x, dx]) (binds := [("self", .ref x)]) ?k0 rfl ?k1 ?k2 ?k3 ?k4 ?k5 ?k6 ?k7 ?_ ?c2 ?c3 ?c4 ?c5
  case k0 => exact hmu
  (k_dflt ((case k1 => k_asm); (case k2 => k_asm); (case k3 => k_is); (case k4 => k_is); (case k5 => exact Nat.le_of_ble_eq_true rfl); (case k6 => first | exact BindsTo.of_eq rfl | exact binds_K (by k_in) rfl (by k_is) rfl rfl rfl); (case k7 => exact locs rfl); (case c2 => exact rfl); (case c3 => exact rfl); (case c4 => exact rfl); (case c5 => decide)))
  intro L' h' F' N' l'
  clear l'
  generalize hg : hideAll s.heap [x, dx] = g at X T' F' N'
  dsimp only [ptrEnts, List.zip, List.zipWith, List.map] at N'
  refine wpAny_mono (E := fun _ _ => False) (Q := fun fl s' => Halt (∃ D h' tk, fl = .ret (.ref D) ∧ h'.get? D = some { cls := .type "tuple", data := .seq #[.ref T, .int i0 j0, .int i1 j1, .int i2 j2, .int i3 j3, .int i4 j4, .int i5 j5, .int i6 j6, .int i7 j7, .ref S, .int i8 j8] } ∧ s.heap.get? D = none ∧ Ext s.heap h' ∧ s' = { s with heap := h', toks := tk })) ?_ (fun fl s' q => by obtain ⟨D, h', tk, rfl, e1, e2, e3, rfl⟩ := q; exact ret D h' tk e1 e2 e3) (fun _ _ q => q.elim)
  refine opqA fun QQ hQQ => ?_
  k_steps
  rename Fr _ _ _ _ => FA
  rename News _ _ _ _ => NA
  rename_i l1 l2
  have n1 := NA _ List.mem_cons_self
  dsimp only at n1
  subst hg
  subst hQQ
  refine Halt.go ⟨_, _, _, rfl, n1.1, ?_, ext_of_mu (mu := [(x, instObj 276 dx), (dx, dictOf (ptrEnts w.params [a0, a1, a2, a3, a4, a5, a6, a7, a8, a9, a10] [.ref T, .int i0 j0, .int i1 j1, .int i2 j2, .int i3 j3, .int i4 j4, .int i5 j5, .int i6 j6, .int i7 j7, .ref S, .int i8 j8]) 11)]) (fs := [x, dx]) rfl FA (fun q hq => NA q ?_) hmu, rfl⟩
  · refine hide_fresh n1.2.2 ?_
    simp only [List.mem_cons, List.not_mem_nil, or_false, not_or]
    exact ⟨Nat.ne_of_gt l2.2.2.2.2.1, Nat.ne_of_gt l2.2.2.2.2.2⟩
  · exact List.mem_append_right [_, _, _, _, _] hq
end
section
-- part P21
local macro_rules | `(tactic| walk_at "subscriptTail") => `(tactic| (k_here; (with_reducible show wpAny _ _ (subscriptTail _ _ (Value.ref _) (Value.int _ _)) _ _ _); k_dflt (refine' item_tupleT ?t ?a ?b ?c ?d ?_; (case t => exact News.isTup (by with_reducible assumption) (by k_mem)); (case a => decide); (case b => decide); (case c => rfl); (case d => rfl); k_whole)))
local macro_rules | `(tactic| walk_at "call type:list") => `(tactic| refine Halt.mk ?_)
local macro_rules | `(tactic| walk_at "compareOp Eq ref ref") => `(tactic| refine Halt.mk ?_)
theorem parse_len {ks : List Int} {c n : Int} {r : List Int × (Int × Int × Int) × Int} (h : parseB ks c n = some r) : r.1.length ≤ ks.length := by
  unfold parseB at h
  split at h
  · cases h
  split at h
  · cases h
  split at h
  · cases h
  split at h
  · cases h
  split at h
  · cases h
  cases h
  simp only [List.length_take, List.length_drop]
  omega
set_option maxHeartbeats 4000000 in
theorem law_is_told_spec {w : World} {fr : Option (List Env)} {s : Shared} {Q E : Value → Shared → Prop} {l : Addr} {vs : List Value} {nl : Nat} {ks : List Int} {which number : Int} {w1 w2 : Tok}
    (hl : s.heap.get? l = some (W.listOf vs.toArray nl)) (G : Gd w (hideAll s.heap [l])) (hi : IntsAre vs ks) (hk : Oct ks) (hn : ks.length ≤ 100)
    (ret : ∀ h' tk, Ext s.heap h' → Q (.bool true) { s with heap := h', toks := tk }) :
    wpP (model PySem.Challenge.rw_pb0583_01.row.prog w) (LvA 320 fr) (call (.ref 332) [.ref l, .int which w1, .int number w2]) Q E s := by
  obtain ⟨X, p, loose, mean, mg, mb, T⟩ := G
  revert X; k_fill; intro X
  refine .called ?_
  refine' enterPM (mu := [(l, W.listOf vs.toArray nl)]) (fs := [l]) (binds := [("octets", .ref l), ("which", .int which w1), ("number", .int number w2)]) ?k0 rfl ?k1 ?k2 ?k3 ?k4 ?k5 ?k6 ?k7 ?_ ?c2 ?c3 ?c4 ?c5
  case k0 => exact List.forall_mem_cons.mpr ⟨hl, List.forall_mem_nil _⟩
  (k_dflt ((case k1 => k_asm); (case k2 => k_asm); (case k3 => k_is); (case k4 => k_is); (case k5 => exact Nat.le_of_ble_eq_true rfl); (case k6 => first | exact BindsTo.of_eq rfl | exact binds_K (by k_in) rfl (by k_is) rfl rfl rfl); (case k7 => exact locs rfl); (case c2 => exact rfl); (case c3 => exact rfl); (case c4 => exact rfl); (case c5 => decide)))
  intro L' h' hL F' N' l'
  clear l' hL
  generalize hg : hideAll s.heap [l] = g at X T F' N'
  have hvl : vs.length = ks.length := hi.length
  refine wpP.mono (E := fun _ _ => False) (Q := fun fl s' => Halt (∃ h' tk, fl = .ret (.bool true) ∧ Ext s.heap h' ∧ s' = { s with heap := h', toks := tk })) ?_
    (fun fl s' q => by obtain ⟨h', tk, rfl, e1, rfl⟩ := q; exact ret h' tk e1) (fun _ _ q => q.elim)
  refine opqP fun QQ hQQ => ?_
  refine .cons (.stTupleSw (names := ["told", "due"]) (.evTuple (.items (.callName ?_))))
  k_steps
  refine .calledWith (P := fun h => (hd.heap_1 w.params).In h) rfl (keeps_K (by k_is)) (.any ?_)
  refine evalArgs_kw2 (by rfl) ?_
  k_steps
  rename Fr _ _ _ _ => FA
  rename News _ _ _ _ => NA
  rename KBa.In ks => hin
  show wpP _ _ (call (.ref 294) [.bytes (PySem.byteArr ks) _, .int which _, .int number _] []) _ _ _
  refine atLvP (d := 350) (block_of_spec ⟨X.keeps FA.keep, p, loose, mean, mg, mb, T.keeps FA.keep⟩ (KBa.ints_make hin) hn (fun hp h2 tk2 k2 => ?_) (fun r v h2 tk2 hp hT k2 => ?_))
  · have F2 := fr_ext FA k2
    have N2 : News g L' _ _ := fun q hq => ⟨k2 _ _ (NA q hq).1, (NA q hq).2⟩
    clear FA NA k2
    dsimp only at F2 N2 ⊢
    refine .any ?_
    k_steps
    rename Fr _ _ _ _ => FA
    rename News _ _ _ _ => NA
    refine Halt.go (atLv (d := 500) (law_read_spec (NA _ List.mem_cons_self).1 (gd_hide (mu := [(l, W.listOf vs.toArray nl)]) ⟨X, p, loose, mean, mg, mb, T⟩ FA NA) hi hk hn (fun _ h3 tk3 k3 => ?_) (fun r v h3 tk3 hp' _ _ => by rw [hp] at hp'; cases hp')))
    have F3 := fr_ext FA k3
    have N3 : News g L' _ _ := fun q hq => ⟨k3 _ _ (NA q hq).1, (NA q hq).2⟩
    clear FA NA k3
    dsimp only at F3 N3 ⊢
    k_steps
    refine .any ?_
    k_steps
    rename Fr _ _ _ _ => FA
    rename News _ _ _ _ => NA
    subst hg
    subst hQQ
    exact Halt.go ⟨_, _, rfl, ext_of_mu (mu := [(l, W.listOf vs.toArray nl)]) (fs := [l]) rfl FA (fun q hq => NA q (List.mem_cons_of_mem _ hq)) (List.forall_mem_cons.mpr ⟨hl, List.forall_mem_nil _⟩), rfl⟩
  · obtain ⟨D, x, dx, T1, S1, pl, ts, s0, s1, s2, s3, ka, kb, kc, kd, ke, t1, t2, t3, u1, u2, u3, tc, c, rfl, hts, hc, hobj⟩ := hT
    obtain ⟨rows, ⟨v0, v1, v2⟩, birth⟩ := r
    dsimp only at hc hobj k2
    have F2 := fr_ext FA k2
    have N2 := News.app (news_of FA hobj) (fun q hq => ⟨k2 _ _ (NA q hq).1, (NA q hq).2⟩)
    clear FA NA k2 hobj
    dsimp only [ptrObjs, List.cons_append, List.nil_append] at F2 N2 ⊢
    refine .any ?_
    k_steps
    rename Fr _ _ _ _ => FA
    rename News _ _ _ _ => NA
    have NL : News g L' _ [(l, W.listOf vs.toArray nl)] := fun q hq => NA q (List.mem_append_right [_, _, _, _, _, _] hq)
    refine Halt.go (atLv (d := 500) (law_read_spec (NL _ List.mem_cons_self).1 (gd_hide (mu := [(l, W.listOf vs.toArray nl)]) ⟨X, p, loose, mean, mg, mb, T⟩ FA NL) hi hk hn (fun hp' h3 tk3 k3 => by rw [hp] at hp'; cases hp') (fun r' v h3 tk3 hp' hD k3 => ?_)))
    rw [hp] at hp'
    cases Option.some.inj hp'
    obtain ⟨D2, RL, PT, tb, w3, w4, w5, ys, n, rfl, hys, hobj⟩ := hD
    dsimp only at hys hobj k3
    have F3 := fr_ext FA k3
    have N3 := News.app (news_of FA hobj) (fun q hq => ⟨k3 _ _ (NA q hq).1, (NA q hq).2⟩)
    clear FA NA NL k3 hobj hp'
    dsimp only [List.cons_append, List.nil_append] at F3 N3 ⊢
    k_steps
    refine .any ?_
    k_steps
    have hrl := parse_len hp
    dsimp only at hrl
    rename Fr _ _ _ _ => FA
    rename News _ _ _ _ => NA
    refine Halt.go (list_of_bytes rfl FA NA (fun D3 ys3 n3 h4 tk4 hI4 F4 N4 l4 => ?_) (by rw [← KBw.ints_length, hc, sizeLine_eq]; omega))
    rw [hc] at hI4
    clear FA NA l4
    dsimp only
    k_steps
    rename Fr _ _ _ _ => FA
    rename News _ _ _ _ => NA
    have y1 := (NA _ List.mem_cons_self).1
    have y2 := (NA _ (List.mem_cons_of_mem _ (List.mem_cons_of_mem _ (List.mem_cons_of_mem _ List.mem_cons_self)))).1
    dsimp only at y1 y2
    refine Halt.go (eq_intsK ⟨_, y1, rfl, _, rfl⟩ hI4 ⟨_, y2, rfl, _, rfl⟩ hys (by exact Nat.le_of_ble_eq_true rfl) ?_)
    rw [decide_eq_true rfl]
    clear y1 y2
    obtain ⟨a0, a1, a2, a3, a4, a5, a6, a7, a8, a9, a10, rfl⟩ := eleven hts
    dsimp only [ptrEnts, List.zip, List.zipWith, List.map] at NA
    k_steps
    rename Fr _ _ _ _ => FA
    rename News _ _ _ _ => NA
    have NP : News g L' _ [(x, instObj 276 dx), (dx, _)] := List.forall_mem_cons.mpr ⟨NA (x, instObj 276 dx) (by simp), List.forall_mem_cons.mpr ⟨NA _ (by (iterate 7 (refine List.mem_cons_of_mem _ ?_)); exact List.mem_cons_self), List.forall_mem_nil _⟩⟩
    refine Halt.go (atLv (d := 450) (plain_spec (x := x) (dx := dx) (ts := [a0, a1, a2, a3, a4, a5, a6, a7, a8, a9, a10]) (fun q hq => (NP q hq).1) rfl (gd_hide (mu := [(x, instObj 276 dx), (dx, _)]) ⟨X, p, loose, mean, mg, mb, T⟩ FA NP) fun D4 h5 tk5 e1 e2 k5 => ?_))
    dsimp only at e1 e2 k5
    have F5 := fr_ext FA k5
    have N5 : News g L' h5 _ := fun q hq => ⟨k5 _ _ (NA q (List.mem_cons_of_mem _ (List.mem_cons_of_mem _ hq))).1, (NA q (List.mem_cons_of_mem _ (List.mem_cons_of_mem _ hq))).2⟩
    have fD4 : News g L' h5 [(D4, _)] := news_of FA (List.forall_mem_cons.mpr ⟨⟨e1, e2⟩, List.forall_mem_nil _⟩)
    have N6 := News.app fD4 N5
    clear FA NA NP k5 e1 e2 N5 fD4
    dsimp only [List.cons_append, List.nil_append] at F5 N6 ⊢
    k_steps
    rename Fr _ _ _ _ => FA
    rename News _ _ _ _ => NA
    have N7 : News g L' _ [(D4, _), (PT, _), (T1, _), (S1, _), (pl, _), (l, _)] := List.forall_mem_cons.mpr ⟨NA _ List.mem_cons_self, List.forall_mem_cons.mpr ⟨NA _ (by (iterate 3 (refine List.mem_cons_of_mem _ ?_)); exact List.mem_cons_self), List.forall_mem_cons.mpr ⟨NA _ (by (iterate 7 (refine List.mem_cons_of_mem _ ?_)); exact List.mem_cons_self), List.forall_mem_cons.mpr ⟨NA _ (by (iterate 8 (refine List.mem_cons_of_mem _ ?_)); exact List.mem_cons_self), List.forall_mem_cons.mpr ⟨NA _ (by (iterate 9 (refine List.mem_cons_of_mem _ ?_)); exact List.mem_cons_self), List.forall_mem_cons.mpr ⟨NA _ (by (iterate 10 (refine List.mem_cons_of_mem _ ?_)); exact List.mem_cons_self), List.forall_mem_nil _⟩⟩⟩⟩⟩⟩
    refine Halt.go (atLv (d := 450) (log_pointer_spec ⟨X.keeps FA.keep, p, loose, mean, mg, mb, T.keeps FA.keep⟩ fun px pdx pT pS pts s0' s1' s2' s3' ka' kb' kc' kd' ke' h6 tk6 hpo hpts k6 => ?_))
    obtain ⟨b0, b1, b2, b3, b4, b5, b6, b7, b8, b9, b10, rfl⟩ := eleven hpts
    dsimp only [ptrEnts, List.zip, List.zipWith, List.map] at hpo k6
    have F6 := fr_ext FA k6
    have N8 := News.app (news_of FA hpo) (fun q hq => ⟨k6 _ _ (N7 q hq).1, (N7 q hq).2⟩)
    clear FA NA N7 k6 hpo
    dsimp only [List.cons_append, List.nil_append] at F6 N8 ⊢
    k_steps
    rename Fr _ _ _ _ => FA
    rename News _ _ _ _ => NA
    have NP : News g L' _ [(px, instObj 276 pdx), (pdx, _)] := List.forall_mem_cons.mpr ⟨NA _ List.mem_cons_self, List.forall_mem_cons.mpr ⟨NA _ (by (iterate 1 (refine List.mem_cons_of_mem _ ?_)); exact List.mem_cons_self), List.forall_mem_nil _⟩⟩
    have N7 : News g L' _ [(D4, _), (pT, _), (pS, _), (PT, _), (T1, _), (S1, _), (pl, _), (l, _)] := List.forall_mem_cons.mpr ⟨NA _ (by (iterate 4 (refine List.mem_cons_of_mem _ ?_)); exact List.mem_cons_self), List.forall_mem_cons.mpr ⟨NA _ (by (iterate 2 (refine List.mem_cons_of_mem _ ?_)); exact List.mem_cons_self), List.forall_mem_cons.mpr ⟨NA _ (by (iterate 3 (refine List.mem_cons_of_mem _ ?_)); exact List.mem_cons_self), List.forall_mem_cons.mpr ⟨NA _ (by (iterate 5 (refine List.mem_cons_of_mem _ ?_)); exact List.mem_cons_self), List.forall_mem_cons.mpr ⟨NA _ (by (iterate 6 (refine List.mem_cons_of_mem _ ?_)); exact List.mem_cons_self), List.forall_mem_cons.mpr ⟨NA _ (by (iterate 7 (refine List.mem_cons_of_mem _ ?_)); exact List.mem_cons_self), List.forall_mem_cons.mpr ⟨NA _ (by (iterate 8 (refine List.mem_cons_of_mem _ ?_)); exact List.mem_cons_self), List.forall_mem_cons.mpr ⟨NA _ (by (iterate 9 (refine List.mem_cons_of_mem _ ?_)); exact List.mem_cons_self), List.forall_mem_nil _⟩⟩⟩⟩⟩⟩⟩⟩
    refine Halt.go (atLv (d := 450) (plain_spec (x := px) (dx := pdx) (ts := [b0, b1, b2, b3, b4, b5, b6, b7, b8, b9, b10]) (fun q hq => (NP q hq).1) rfl (gd_hide (mu := [(px, instObj 276 pdx), (pdx, _)]) ⟨X, p, loose, mean, mg, mb, T⟩ FA NP) fun D5 h7 tk7 e1 e2 k7 => ?_))
    dsimp only at e1 e2 k7
    have F7 := fr_ext FA k7
    have fD5 : News g L' h7 [(D5, _)] := news_of FA (List.forall_mem_cons.mpr ⟨⟨e1, e2⟩, List.forall_mem_nil _⟩)
    have N9 := News.app fD5 (fun q hq => ⟨k7 _ _ (N7 q hq).1, (N7 q hq).2⟩)
    clear FA NA NP k7 e1 e2 N7 fD5
    dsimp only [List.cons_append, List.nil_append] at F7 N9 ⊢
    k_steps
    rename Fr _ _ _ _ => FA
    rename News _ _ _ _ => NA
    have y0 := (NA _ List.mem_cons_self).1
    have y1 := (NA _ (List.mem_cons_of_mem _ List.mem_cons_self)).1
    have y2 := (NA _ (List.mem_cons_of_mem _ (List.mem_cons_of_mem _ List.mem_cons_self))).1
    have y3 := (NA _ (List.mem_cons_of_mem _ (List.mem_cons_of_mem _ (List.mem_cons_of_mem _ List.mem_cons_self)))).1
    have y4 := (NA _ (List.mem_cons_of_mem _ (List.mem_cons_of_mem _ (List.mem_cons_of_mem _ (List.mem_cons_of_mem _ List.mem_cons_self))))).1
    have y5 := (NA _ (List.mem_cons_of_mem _ (List.mem_cons_of_mem _ (List.mem_cons_of_mem _ (List.mem_cons_of_mem _ (List.mem_cons_of_mem _ List.mem_cons_self)))))).1
    have y6 := (NA _ (List.mem_cons_of_mem _ (List.mem_cons_of_mem _ (List.mem_cons_of_mem _ (List.mem_cons_of_mem _ (List.mem_cons_of_mem _ (List.mem_cons_of_mem _ List.mem_cons_self))))))).1
    have y7 := (NA _ (List.mem_cons_of_mem _ (List.mem_cons_of_mem _ (List.mem_cons_of_mem _ (List.mem_cons_of_mem _ (List.mem_cons_of_mem _ (List.mem_cons_of_mem _ (List.mem_cons_of_mem _ List.mem_cons_self)))))))).1
    dsimp only at y0 y1 y2 y3 y4 y5 y6 y7
    refine Halt.go (eq_plain (reads_plain y1 y5 y6 y7) (reads_plain y0 y2 y3 y4) (by exact Nat.le_of_ble_eq_true rfl) ?_)
    clear y0 y1 y2 y3 y4 y5 y6 y7
    k_steps
    subst hg
    subst hQQ
    exact Halt.go ⟨_, _, rfl, ext_of_mu (mu := [(l, W.listOf vs.toArray nl)]) (fs := [l]) rfl FA (fun q hq => NA q (List.mem_append_right [_, _, _, _, _, _, _, _] hq)) (List.forall_mem_cons.mpr ⟨hl, List.forall_mem_nil _⟩), rfl⟩
end
section
-- part P23
section
variable {prog : Program} {w : World} {A : Around} {E : Value → Shared → Prop} {s : Shared} {env : Env}
theorem wpP.stTry {body orelse : List Stmt} {h₀ : ExceptHandler} {hs : List ExceptHandler} {pos : Pos} {Q : Flow → Shared → Prop}
    (h : wpP (model prog w) A (execs body env) (fun f s₁ => match f with | .next => wpP (model prog w) A (execs orelse env) Q E s₁ | f => Q f s₁)
      (fun e s₁ => wpAny (model prog w) A (noteFrame e env) (fun _ s₂ => wpAny (model prog w) A (setFlight e none) (fun _ s₃ => wpAny (model prog w) A (handleBy e env (h₀ :: hs)) Q E s₃) E s₂) E s₁) s) :
    wpP (model prog w) A (exec (.Try body (h₀ :: hs) orelse [] pos) env) Q E s := by
  rw [arm_exec_Try]
  refine .stand ?_
  unfold tryStmt
  simp only [List.isEmpty_nil, if_true, List.isEmpty_cons, Bool.false_and, Bool.false_eq_true, if_false]
  refine .bind (.attempted (h.mono (fun f s₁ h₁ => ?_) fun e s₁ h₁ => ?_))
  · cases f <;> first | exact h₁ | exact .ret h₁
  · exact .any (wpAny_bind (wpAny_mono h₁ (fun _ _ h₂ => wpAny_bind h₂) fun _ _ x => x))
end
theorem hide_sub {h : Heap} {as bs : List Addr} (hs : ∀ a ∈ bs, a ∈ as) : Ext (hideAll h as) (hideAll h bs) := fun q o y => hideAll_get _ (of_hideAll _ y) fun z => by
  rw [hideAll_none _ (hs q z)] at y; cases y
set_option maxHeartbeats 4000000 in
theorem law_is_refused_spec {w : World} {outer : List Env} {s : Shared} {Q E : Value → Shared → Prop} {x dx T S pl : Addr} {ts : List Tok} {s0 s1 s2 s3 ka kb kc kd ke t1 t2 t3 u1 u2 u3 w1 w2 w3 w4 : Tok} {psize birth pchain v0 v1 v2 chain number size : Int} {rows : Array UInt8}
    (hmu : ∀ q ∈ ptrObjs w.params x dx T S pl ts s0 s1 s2 s3 ka kb kc kd ke t1 t2 t3 u1 u2 u3 psize birth pchain v0 v1 v2, s.heap.get? q.1 = some q.2) (hts : ts.length = 11)
    (G : Gd w (hideAll s.heap (outer.filterMap (·.frame) ++ [x, dx, T, S, pl]))) (K : s.heap.FunFrames (hideAll s.heap (outer.filterMap (·.frame))) outer)
    (hc : 0 ≤ chain ∧ chain < 256 ^ 4) (hn : 0 ≤ number ∧ number < 256 ^ 3) (h0 : 0 ≤ v0 ∧ v0 < 256 ^ 1) (h1 : 0 ≤ v1 ∧ v1 < 256 ^ 4) (h2' : 0 ≤ v2 ∧ v2 < 256 ^ 2) (hb : 0 ≤ birth ∧ birth < 256 ^ 4) (hr : (rows.size : Int) ≤ 100) (hs0 : 36 ≤ size) (hs : size ≤ 100) (hbig : size < (rows.size : Int) + 36)
    (ret : ∀ h' tk, (∀ q o, q ∉ outer.filterMap (·.frame) → s.heap.get? q = some o → h'.get? q = some o) → s.heap.UpToSlots h' → Q (.bool true) { s with heap := h', toks := tk }) :
    wpP (model PySem.Challenge.rw_pb0583_01.row.prog w) (LvA 320 (some outer)) (call (.ref 339) [.int chain w1, .int number w2, .bytes rows w3, .ref x, .int size w4]) Q E s := by
  obtain ⟨X0, p, loose, mean, mg, mb, T0⟩ := G
  have sub5 : Ext (hideAll s.heap (outer.filterMap (·.frame) ++ [x, dx, T, S, pl])) (hideAll s.heap [x, dx, T, S, pl]) := hide_sub fun a ha => List.mem_append_right _ ha
  have X := X0.keeps sub5
  have T' := T0.keeps sub5
  revert X; k_fill; intro X
  refine .called ?_
  refine' enterPM (mu := ptrObjs w.params x dx T S pl ts s0 s1 s2 s3 ka kb kc kd ke t1 t2 t3 u1 u2 u3 psize birth pchain v0 v1 v2) (fs := [x, dx, T, S, pl]) (binds := [("which", .int chain w1), ("number", .int number w2), ("rows", .bytes rows w3), ("following", .ref x), ("size", .int size w4)]) ?k0 rfl ?k1 ?k2 ?k3 ?k4 ?k5 ?k6 ?k7 ?_ ?c2 ?c3 ?c4 ?c5
  case k0 => exact hmu
  (k_dflt ((case k1 => k_asm); (case k2 => k_asm); (case k3 => k_is); (case k4 => k_is); (case k5 => exact Nat.le_of_ble_eq_true rfl); (case k6 => first | exact BindsTo.of_eq rfl | exact binds_K (by k_in) rfl (by k_is) rfl rfl rfl); (case k7 => exact locs rfl); (case c2 => exact rfl); (case c3 => exact rfl); (case c4 => exact rfl); (case c5 => decide)))
  intro L' h' hL F' N' l'
  clear l'
  generalize hg : hideAll s.heap [x, dx, T, S, pl] = g at X T' F' N'
  clear sub5
  refine wpP.mono (E := fun _ _ => False) (Q := fun fl s' => Halt (∃ h' tk, fl = .ret (.bool true) ∧ (∀ q o, q ∉ outer.filterMap (·.frame) → s.heap.get? q = some o → h'.get? q = some o) ∧ s.heap.UpToSlots h' ∧ s' = { s with heap := h', toks := tk })) ?_
    (fun fl s' q => by obtain ⟨h', tk, rfl, e1, e2, rfl⟩ := q; exact ret h' tk e1 e2) (fun _ _ q => q.elim)
  refine opqP fun QQ hQQ => ?_
  refine .cons (.stTry (.cons (.stExpr (.callName ?_))))
  k_steps
  refine .calledWith (P := fun h => (hd.heap_1 w.params).In h) rfl (keeps_K (by k_is)) (.any ?_)
  refine evalArgs_kw2 (by rfl) ?_
  k_steps
  show wpP _ _ (call (.ref 251) [.int chain _, .int number _, .bytes rows _, .ref x, .int size _] []) _ _ _
  subst hg
  have kE : Ext s.heap h' := ext_of_mu (mu := ptrObjs w.params x dx T S pl ts s0 s1 s2 s3 ka kb kc kd ke t1 t2 t3 u1 u2 u3 psize birth pchain v0 v1 v2) (fs := [x, dx, T, S, pl]) rfl F' N' hmu
  have hnew : (hideAll s.heap (outer.filterMap (·.frame))).get? L' = none := by
    cases z : (hideAll s.heap (outer.filterMap (·.frame))).get? L' with
    | none => rfl
    | some o => exact absurd (Heap.lt_size (of_hideAll _ z)) (by rw [hL]; exact Nat.lt_irrefl _)
  refine' with_cls (K := hd.heap_1 w.params) ?e fun hC => ?_
  case e => k_is
  refine atLvP (d := 350) (block_octets_spec (fun q hq => (N' q hq).1) hts (gd_hide (mu := ptrObjs w.params x dx T S pl ts s0 s1 s2 s3 ka kb kc kd ke t1 t2 t3 u1 u2 u3 psize birth pchain v0 v1 v2) ⟨X, p, loose, mean, mg, mb, T'⟩ F' N') hc hn h0 h1 h2' hb hr hs0 hs
    (fun _ => ⟨envOf _ _ L' 339 _ :: outer, rfl, funFrames_hide (base := hideAll s.heap (outer.filterMap (·.frame))) (.cons (fun z => by cases z) rfl F'.ns hnew (K.of_keeps fun b o y _ => ⟨o, kE b o y, rfl⟩)) (fun env he a hf => List.mem_filterMap.mpr ⟨env, he, hf⟩), fun e s' hF => ?_⟩) (fun c t h2 tk2 hf => absurd hf (by omega)))
  obtain ⟨ea, a0, h2, tk2, rfl, rfl, W0, U0⟩ := hF
  have W := flyingW_base (base := hideAll s.heap (outer.filterMap (·.frame))) (fun q o y => hideAll_get _ (kE q o (of_hideAll _ y)) fun hm => by
    obtain ⟨env, he, hf⟩ := List.mem_filterMap.mp hm
    rcases List.mem_cons.mp he with rfl | he
    · rw [← (Option.some.inj hf : L' = q)] at y
      rw [hnew] at y; cases y
    · rw [hideAll_none _ (List.mem_filterMap.mpr ⟨env, he, hf⟩)] at y; cases y) W0
  refine wpAny_looks_onW (Around.frames_deeper rfl) rfl W fun h4 W4 U4 => ?_
  refine wpAny_landsW W4 fun h5 W5 U5 => ?_
  have U := U0.trans (U4.trans U5)
  have F5 : Fr (hideAll s.heap (outer.filterMap (·.frame) ++ [x, dx, T, S, pl])) L' h5 _ := ⟨U.ns F'.ns, fun q o y => W5.1 q o (hide_sub (fun a ha => List.mem_append_left _ ha) q o y), by
    have := F'.above
    rw [hideAll_size] at this ⊢
    exact this⟩
  clear W0 W W4 U0 U4 U5 F' N' X T'
  refine wpAny_handleBy_cons (codeAny_handlers_test ?_) (by intro q; cases q)
  k_steps
  obtain ⟨ob, hob, hobc⟩ := W5.there
  refine wpAny_excMatches_sub_self (X0.keeps F5.keep _ _ hC) hob hobc (by rfl) ?_
  dsimp only
  refine codeAny_handlers_suite ?_
  refine lands_againW W5 fun h6 W6 U6 => ?_
  refine wpAny_mono (E := fun _ _ => False) ?_ (fun _ _ x => x) (fun _ _ x => x.elim)
  have F6 : Fr (hideAll s.heap (outer.filterMap (·.frame) ++ [x, dx, T, S, pl])) L' h6 _ := ⟨U6.ns F5.ns, fun q o y => W6.1 q o (hide_sub (fun a ha => List.mem_append_left _ ha) q o y), F5.above⟩
  clear F5 W5 hob
  k_steps
  subst hQQ
  exact Halt.go ⟨_, _, rfl, fun q o n y => W6.1 q o (hideAll_get _ y n), (Heap.UpToSlots.of_keeps kE).trans (U.trans U6), rfl⟩
end
section
-- part Pe
theorem news_tail {g h : Heap} {L : Addr} {a : Addr × Obj} {r : List (Addr × Obj)} (N : News g L h (a :: r)) : News g L h r := fun q hq => N q (List.mem_cons_of_mem _ hq)
theorem pick4 {a b c d : Addr} (j : Nat) (h : j < 4) : (#[Value.ref a, .ref b, .ref c, .ref d])[j]? = some (.ref (match j with | 0 => a | 1 => b | 2 => c | _ => d)) := by
  match j, h with
  | 0, _ => rfl
  | 1, _ => rfl
  | 2, _ => rfl
  | 3, _ => rfl
theorem news_drop1 {g h : Heap} {L : Addr} {a b : Addr × Obj} {r : List (Addr × Obj)} (N : News g L h (a :: b :: r)) : News g L h (a :: r) := fun q hq =>
  (List.mem_cons.mp hq).elim (fun z => by rw [z]; exact N _ List.mem_cons_self) fun z => N q (List.mem_cons_of_mem _ (List.mem_cons_of_mem _ z))
theorem news_drop3 {g h : Heap} {L : Addr} {a b c d : Addr × Obj} {r : List (Addr × Obj)} (N : News g L h (a :: b :: c :: d :: r)) : News g L h (a :: r) := fun q hq =>
  (List.mem_cons.mp hq).elim (fun z => by rw [z]; exact N _ List.mem_cons_self) fun z => N q (List.mem_cons_of_mem _ (List.mem_cons_of_mem _ (List.mem_cons_of_mem _ (List.mem_cons_of_mem _ z))))
theorem ne_read {prog : Program} {w : World} {A : Around} {E Q : Value → Shared → Prop} {s : Shared} {D R P D' R' P' : Addr} {n n' : Nat} {ys ys' : List Value} {kr : List Int} {v0 v1 v2 br : Int} {u0 u1 u2 u0' u1' u2' tb tb' : Tok}
    (h1 : s.heap.get? D = some { cls := .type "tuple", data := .seq #[.ref R, .ref P, .int br tb] }) (h2 : s.heap.get? R = some (W.listOf ys.toArray n)) (h3 : s.heap.get? P = some { cls := .type "tuple", data := .seq #[.int v0 u0, .int v1 u1, .int v2 u2] }) (hy : IntsAre ys kr)
    (h1' : s.heap.get? D' = some { cls := .type "tuple", data := .seq #[.ref R', .ref P', .int br tb'] }) (h2' : s.heap.get? R' = some (W.listOf ys'.toArray n')) (h3' : s.heap.get? P' = some { cls := .type "tuple", data := .seq #[.int v0 u0', .int v1 u1', .int v2 u2'] }) (hy' : IntsAre ys' kr)
    (hu : A.units + 64 < cLine) (h : Q (.bool false) s) : wpAny (model prog w) A (compareOp .NotEq (.ref D) (.ref D')) Q E s := by
  have c0 : ∀ {h v vs d ds}, Reads h v d [] → ReadsAll h vs ds [] → ReadsAll h (v :: vs) (d :: ds) [] := fun a b => ReadsAll.cons a b
  have c1 : ∀ {h v vs d ds a}, Reads h v d [a] → ReadsAll h vs ds [] → ReadsAll h (v :: vs) (d :: ds) [a] := fun x y => ReadsAll.cons x y
  have r1 : Reads s.heap (.ref D) (.tuple [.list (kr.map PyData.int), .tuple [.int v0, .int v1, .int v2], .int br]) [R] :=
    .tuple h1 rfl rfl (c1 (reads_of_ints ⟨_, h2, rfl, _, rfl⟩ hy) (c0 (.tuple h3 rfl rfl (c0 (.int _ _) (c0 (.int _ _) (c0 (.int _ _) .nil)))) (c0 (.int _ _) .nil)))
  have r2 : Reads s.heap (.ref D') (.tuple [.list (kr.map PyData.int), .tuple [.int v0, .int v1, .int v2], .int br]) [R'] :=
    .tuple h1' rfl rfl (c1 (reads_of_ints ⟨_, h2', rfl, _, rfl⟩ hy') (c0 (.tuple h3' rfl rfl (c0 (.int _ _) (c0 (.int _ _) (c0 (.int _ _) .nil)))) (c0 (.int _ _) .nil)))
  have hd := W.depthAll_ints kr
  have sh : SeqAt.shaped (.tuple [.list (kr.map PyData.int), .tuple [.int v0, .int v1, .int v2], .int br]) = true := by
    unfold SeqAt.shaped
    rw [Bool.and_eq_true, decide_eq_true_eq]
    refine ⟨by simp [PyData.canLay0, PyData.canLayAll0, canLayAll0_ints], ?_⟩
    simp only [PyData.depth, PyData.depthAll]
    omega
  exact ne_dataH_same r1 r2 sh sh hu (by simp [SeqAt.noMix, SeqAt.noMixAll, noMix_ints]) (by rw [PySem.Spec.same_self]; exact h)
theorem news_drop2 {g h : Heap} {L : Addr} {a b c : Addr × Obj} {r : List (Addr × Obj)} (N : News g L h (a :: b :: c :: r)) : News g L h (a :: r) := fun q hq =>
  (List.mem_cons.mp hq).elim (fun z => by rw [z]; exact N _ List.mem_cons_self) fun z => N q (List.mem_cons_of_mem _ (List.mem_cons_of_mem _ (List.mem_cons_of_mem _ z)))
theorem news_none {g h : Heap} {L q : Addr} {l : List (Addr × Obj)} (N : News g L h l) (z : q ∈ l.map (·.1)) : g.get? q = none := by
  obtain ⟨q', hq', rfl⟩ := List.mem_map.mp z
  exact (N q' hq').2.2
theorem ne_place {prog : Program} {w : World} {A : Around} {E Q : Value → Shared → Prop} {s : Shared} {T T2 pl : Addr} {v0 v1 v2 : Int} {u0 u1 u2 : Tok} (h1 : s.heap.get? T = some (tup1 pl)) (h2 : s.heap.get? T2 = some (tup1 pl)) (hp : s.heap.get? pl = some (tup3 v0 u0 v1 u1 v2 u2))
    (hu : A.units + 64 < cLine) (h : Q (.bool false) s) : wpAny (model prog w) A (compareOp .NotEq (.ref T) (.ref T2)) Q E s := by
  have c0 : ∀ {h v vs d ds}, Reads h v d [] → ReadsAll h vs ds [] → ReadsAll h (v :: vs) (d :: ds) [] := fun a b => ReadsAll.cons a b
  have r0 : Reads s.heap (.ref pl) (.tuple [.int v0, .int v1, .int v2]) [] := .tuple hp rfl rfl (c0 (.int _ _) (c0 (.int _ _) (c0 (.int _ _) .nil)))
  have r1 : Reads s.heap (.ref T) (.tuple [.tuple [.int v0, .int v1, .int v2]]) [] := .tuple h1 rfl rfl (c0 r0 .nil)
  have r2 : Reads s.heap (.ref T2) (.tuple [.tuple [.int v0, .int v1, .int v2]]) [] := .tuple h2 rfl rfl (c0 r0 .nil)
  have sh : SeqAt.shaped (.tuple [.tuple [.int v0, .int v1, .int v2]]) = true := by unfold SeqAt.shaped; simp [PyData.canLay0, PyData.canLayAll0, PyData.depth, PyData.depthAll]
  exact ne_dataH_same r1 r2 sh sh hu (by simp [SeqAt.noMix, SeqAt.noMixAll]) (by rw [PySem.Spec.same_self]; exact h)
theorem news_head {g h : Heap} {L p : Addr} {o : Obj} {r : List (Addr × Obj)} (_N : News g L h ((p, o) :: r)) : ∃ q : Addr, q = p := ⟨p, rfl⟩
theorem fr_up {g h h' : Heap} {L : Addr} {m : Str → Option Value} (F : Fr g L h m) (k : ∀ q o, q ∉ [L] → h.get? q = some o → h'.get? q = some o) (U : h.UpToSlots h') : Fr g L h' m :=
  ⟨U.ns F.ns, fun q o y => k q o (fun z => absurd (Heap.lt_size y) (by rw [List.mem_singleton.mp z]; exact Nat.not_lt.mpr F.above)) (F.keep q o y), F.above⟩
theorem news_up {g h h' : Heap} {L : Addr} {l : List (Addr × Obj)} (N : News g L h l) (k : ∀ q o, q ∉ [L] → h.get? q = some o → h'.get? q = some o) : News g L h' l :=
  fun q hq => ⟨k _ _ (fun z => (N q hq).2.1 (List.mem_singleton.mp z)) (N q hq).1, (N q hq).2⟩
theorem octs_exist : ∀ (ys : List Value), (∀ y ∈ ys, ∃ b t, y = Value.int b t ∧ 0 ≤ b ∧ b < 256) → ∃ ks, IntsAre ys ks ∧ Oct ks
  | [], _ => ⟨[], .nil, fun _ h => by cases h⟩
  | y :: r, h => by
    obtain ⟨b, t, rfl, h0, h1⟩ := h y List.mem_cons_self
    obtain ⟨ks, i, o⟩ := octs_exist r fun z hz => h z (List.mem_cons_of_mem _ hz)
    exact ⟨b :: ks, .cons b t i, List.forall_mem_cons.mpr ⟨⟨h0, h1⟩, o⟩⟩
theorem same_fn {K : Frag} {f : Addr} {oc oc' : Value} {od od' : Option Addr} {osl osl' : Array (Option Value)} {name qual name' qual' : Str} {params params' : Arguments} {body body' : List Stmt} {scope scope' : Scope} {dV kV doc pm cdv ct dV' kV' doc' pm' cdv' ct' : Value} {an an' : Option Addr}
    (ho : K.lookup f = some ⟨oc, od, .func (fnOf name qual params body scope dV kV doc pm an cdv ct), osl⟩) (ho' : K.lookup f = some ⟨oc', od', .func (fnOf name' qual' params' body' scope' dV' kV' doc' pm' an' cdv' ct'), osl'⟩)
    : body = body' ∧ scope = scope' := by
  have e := Option.some.inj (ho.symm.trans ho')
  cases e
  exact ⟨rfl, rfl⟩
theorem over_same {α β : Type} [DecidableEq α] {m : α → β} {k : α} {v : β} (h : m k = v) : (fun y => if y = k then v else m y) = m := by
  funext y
  by_cases e : y = k
  · subst e; simp [h]
  · simp [e]
theorem fr_over4 {g h : Heap} {L : Addr} {m : Str → Option Value} {k1 k2 k3 k4 : Str} {v1 v2 v3 v4 : Option Value} (F : Fr g L h m) (h1 : m k1 = v1) (h2 : m k2 = v2) (h3 : m k3 = v3) (h4 : m k4 = v4) :
    Fr g L h (fun y => if y = k1 then v1 else if y = k2 then v2 else if y = k3 then v3 else if y = k4 then v4 else m y) := by
  have e : (fun y => if y = k1 then v1 else if y = k2 then v2 else if y = k3 then v3 else if y = k4 then v4 else m y) = m := by
    funext y
    repeat' split
    all_goals first | (subst y; symm; assumption) | rfl
  rw [e]; exact F
theorem new_octet {b q v : Int} (h0 : 0 ≤ b) (h1 : b < 256) (hv : (b + 1 + q.fmod 255).fmod 256 = v) : (0 ≤ v ∧ v < 256) ∧ v ≠ b := by
  rw [Int.fmod_eq_emod_of_nonneg _ (by decide), Int.fmod_eq_emod_of_nonneg _ (by decide)] at hv
  omega
theorem oct_getD {l : List Int} (h : Oct l) (i : Nat) : 0 ≤ l.getD i 0 ∧ l.getD i 0 < 256 := by
  rw [List.getD_eq_getElem?_getD]
  cases e : l[i]? with
  | none => exact ⟨Int.le_refl _, by decide⟩
  | some x => exact h x (List.mem_of_getElem? e)
theorem oct_set {l : List Int} (h : Oct l) (i : Nat) {v : Int} (hv : 0 ≤ v ∧ v < 256) : Oct (l.set i v) := fun k hk => by
  rcases List.mem_or_eq_of_mem_set hk with z | z
  · exact h k z
  · rw [z]; exact hv
theorem oct_sum (B : List Int) : Oct (sumInts B) := fun k hk => by
  unfold sumInts at hk
  rcases List.mem_append.mp hk with z | z
  · rcases List.mem_append.mp z with z | z
    · rcases List.mem_append.mp z with z | z
      · exact dig_in k z
      · exact dig_in k z
    · exact dig_in k z
  · exact dig_in k z
theorem told_iterP {prog : Program} {w : World} {A : Around} {E Q : Value → Shared → Prop} {s : Shared} {env : Env} {scope : Scope} {cl : List (Str × Addr)} {elt : PySem.Expr} {a b : Str} {pa pb tp : Pos} {kk : Nat} {g : Heap} {L l : Addr} {m : Str → Option Value} {news : List (Addr × Obj)}
    (ps : List (Addr × Int × Tok × Int × Tok)) (hh : A.handled = none) (ha : scope.names.lookup a = some .local) (hb : scope.names.lookup b = some .local) (hab : a ≠ b) (hkind : scope.kind = .function)
    (F : Fr g L s.heap m) (N : News g L s.heap news) (hl : s.heap.IsList l (ps.map fun p => Value.ref p.1).toArray) (hz : ps.length ≤ 100) (hT : ∀ p ∈ ps, s.heap.IsTuple p.1 #[.int p.2.1 p.2.2.1, .int p.2.2.2.1 p.2.2.2.2])
    (el : ∀ C m' s' x t y u, m' a = some (.int x t) → m' b = some (.int y u) → Fr s.heap C s'.heap m' → (∃ h tk, s' = { s with heap := h, toks := tk }) →
      wpP (model prog w) A (eval elt (compEnvC scope cl C env)) (ElPost C s' (fun _ y => y = .bool true)) (fun _ _ => False) s')
    (hfin : ∀ D h' tk ys, Fr g L h' m → News g L h' ((D, lst ys) :: news) → LSm.BoolsAre ys (List.replicate ps.length true) → Q (.ref D) { s with heap := h', toks := tk }) :
    wpAny (model prog w) A (pyIter (.ref l)) (CompItP prog w A env scope cl elt (.Tuple [.Name a pa, .Name b pb] kk tp) g L m news (FinEv g L m news Q)) E s := by
  have hs : (ps.map fun p => Value.ref p.1).toArray.size = ps.length := by simp
  have get : ∀ j, j < (ps.map fun p => Value.ref p.1).toArray.size → ∃ p ∈ ps, ps[j]? = some p := fun j hj => by
    rw [hs] at hj
    exact ⟨ps[j], List.getElem_mem hj, List.getElem?_eq_getElem hj⟩
  refine pairs_iterP (Ts := fun j => match ps[j]? with | some p => p.1 | none => 0) (v0 := fun j => match ps[j]? with | some p => .int p.2.1 p.2.2.1 | none => .none) (v1 := fun j => match ps[j]? with | some p => .int p.2.2.2.1 p.2.2.2.2 | none => .none)
    hh ha hb hab hkind F N hl (by rw [hs, sizeLine_eq]; omega) (fun j hj => ?_) (fun _ _ y => y = .bool true) (fun i C m' s' hi' h0 h1 F2 e2 => ?_) ?_
  · obtain ⟨p, hp, e⟩ := get j hj
    simp only [e]
    exact ⟨by simp [e], hT p hp⟩
  · obtain ⟨p, hp, e⟩ := get i hi'
    simp only [e] at h0 h1
    exact el C m' s' _ _ _ _ h0 h1 F2 e2
  · rintro s₂ ⟨h2, tk2, rfl⟩
    intro D h3 tk3 ys k3 F3 N3 hD hl3 hR
    refine hfin D h3 tk3 ys F3 N3 ?_
    have : ys = List.replicate ps.length (.bool true) := by
      refine List.eq_replicate_iff.mpr ⟨by rw [hl3, hs], fun y hy => ?_⟩
      obtain ⟨i, hi', e⟩ := List.mem_iff_getElem.mp hy
      exact hR i y (by rw [List.getElem?_eq_getElem hi', e])
    rw [this]
    generalize ps.length = n
    induction n with
    | zero => exact .nil
    | succ n ih => exact .cons true ih
theorem fr_over5 {g h : Heap} {L : Addr} {m : Str → Option Value} {k1 k2 k3 k4 k5 : Str} {v1 v2 v3 v4 v5 : Option Value} (F : Fr g L h m) (h1 : m k1 = v1) (h2 : m k2 = v2) (h3 : m k3 = v3) (h4 : m k4 = v4) (h5 : m k5 = v5) :
    Fr g L h (fun y => if y = k1 then v1 else if y = k2 then v2 else if y = k3 then v3 else if y = k4 then v4 else if y = k5 then v5 else m y) := by
  have e : (fun y => if y = k1 then v1 else if y = k2 then v2 else if y = k3 then v3 else if y = k4 then v4 else if y = k5 then v5 else m y) = m := by
    funext y
    repeat' split
    all_goals first | (subst y; symm; assumption) | rfl
  rw [e]; exact F
theorem fr_over6 {g h : Heap} {L : Addr} {m : Str → Option Value} {k1 k2 k3 k4 k5 k6 : Str} {v1 v2 v3 v4 v5 v6 : Option Value} (F : Fr g L h m) (h1 : m k1 = v1) (h2 : m k2 = v2) (h3 : m k3 = v3) (h4 : m k4 = v4) (h5 : m k5 = v5) (h6 : m k6 = v6) :
    Fr g L h (fun y => if y = k1 then v1 else if y = k2 then v2 else if y = k3 then v3 else if y = k4 then v4 else if y = k5 then v5 else if y = k6 then v6 else m y) := by
  have e : (fun y => if y = k1 then v1 else if y = k2 then v2 else if y = k3 then v3 else if y = k4 then v4 else if y = k5 then v5 else if y = k6 then v6 else m y) = m := by
    funext y
    repeat' split
    all_goals first | (subst y; symm; assumption) | rfl
  rw [e]; exact F
theorem fr_gen5 {g h : Heap} {L : Addr} {m : Str → Option Value} {k1 k2 k3 k4 k5 : Str} {v1 v2 v3 v4 v5 : Option Value} (F : Fr g L h m) (h1 : m k1 = v1) (h2 : m k2 = v2) (h3 : m k3 = v3) (h4 : m k4 = v4) (h5 : m k5 = v5) : ∃ m0 : Str → Option Value, Fr g L h (fun y => if y = k1 then v1 else if y = k2 then v2 else if y = k3 then v3 else if y = k4 then v4 else if y = k5 then v5 else m0 y) := ⟨m, fr_over5 F h1 h2 h3 h4 h5⟩
/-- the law's own end: it returns True, and nothing that stood is changed -/
def Done (s : Shared) (fl : Flow) (s' : Shared) : Prop := ∃ h' tk, fl = .ret (.bool true) ∧ Ext s.heap h' ∧ s' = { s with heap := h', toks := tk }
theorem fn_at {K : Frag} {f : Addr} {oc : Value} {od : Option Addr} {osl : Array (Option Value)} {name qual : Str} {params : Arguments} {body : List Stmt} {scope : Scope} {dV kV doc pm cdv ct : Value} {an : Option Addr}
    (ho : K.lookup f = some ⟨oc, od, .func (fnOf name qual params body scope dV kV doc pm an cdv ct), osl⟩) : K.lookup f = some ⟨oc, od, .func (fnOf name qual params body scope dV kV doc pm an cdv ct), osl⟩ := ho
end
section
local macro_rules | `(tactic| kmk_nums) => `(tactic| with_reducible first
  | ((refine' kmk_from ?gi ?gx); (case gi => assumption); (case gx => omega))
  | ((refine' kmk_upto ?gi ?gx); (case gi => assumption); (case gx => omega))
  | ((refine' kmk_upto_neg ?gi ?gx); (case gi => assumption); (case gx => omega))
  | ((refine' kmk_run ?gi ?gx ?gy); (case gi => assumption); (case gx => omega); (case gy => omega)))
local macro_rules | `(tactic| walk_at "pyIter ref") => `(tactic| refine Halt.mk ?_)
local macro_rules | `(tactic| walk_at "call type:list") => `(tactic| refine Halt.mk ?_)
local macro_rules | `(tactic| walk_at "compareOp NotEq ref ref") => `(tactic| refine Halt.mk ?_)
local macro_rules | `(tactic| walk_at "binaryOp Add ref ref") => `(tactic| refine Halt.mk ?_)
local macro_rules | `(tactic| walk_at "subscriptTail") => `(tactic| (k_here; (with_reducible show wpAny _ _ (subscriptTail _ _ (Value.ref _) (Value.int _ _)) _ _ _); k_dflt (refine' item_tupleT ?t ?a ?b ?c ?d ?_; (case t => exact News.isTup (by with_reducible assumption) (by k_mem)); (case a => decide); (case b => decide); (case c => rfl); (case d => rfl); k_whole)))
section
-- part R5
local macro_rules | `(tactic| walk_at "subscriptTail Name Slice ref ref") => `(tactic| (k_here; (with_reducible show wpAny _ _ (subscriptTail _ (PySem.Expr.Slice _ _ none _) (Value.ref _) (Value.ref _)) _ _ _); k_dflt (refine' kmk_slice_ints (s := ⟨_, _, _, _, _⟩) ?F ?N ?l ?p ?q ?i ?m ?c ?_ ?s ?t ?z; (case F => k_asm); (case N => k_asm); (case l => kmk_list); (case p => kmk_part); (case q => kmk_part); (case i => l_ints); (case m => kmk_nums); (case c => kmk_len); (case s => with_unfolding_all rfl); (case t => kmk_pure); (case z => kmk_size)); intro D' ws' h' F' N' l1 hI' hC' hL'; (try simp only [Int.reduceNeg, Int.neg_neg, Int.reduceToNat] at hI' hC' hL'); (try k_lt l1); (try k_sweep)))
set_option maxHeartbeats 20000000 in
theorem law_rest5 {w : World} {s : Shared} {ns BB : List Int} {ws0 wb : List Value} {oc : Value} {od : Option Addr} {osl : Array (Option Value)} {params : Arguments} {body : List Stmt} {scope : Scope} {dV kV doc pm ct : Value} {an : Option Addr} {L' : Addr} {h0 : Heap} {tk0 : Nat} {D0 DB : Addr} {oA oO oS : Obj} {m0 : Str → Option Value} {cn nb sz : Int} {tcn tnb tsz : Tok}
    (ho : (hd.heap_1 w.params).lookup 344 = some ⟨oc, od, .func (fnOf "law" "law" params body scope dV kV doc pm an (.ref 343) ct), osl⟩)
    (G : Gd w s.heap) (FA : Fr s.heap L' h0 (fun y => if y = "body" then some (.ref DB) else if y = "chain_now" then some (.int cn tcn) else if y = "number" then some (.int nb tnb) else if y = "size" then some (.int sz tsz) else m0 y))
    (hI : IntsAre ws0 ns) (hn : ns.length ≤ 63) (l0 : @LT.lt Nat instLTNat (L' + 1 + 1 + 1) D0 ∧ @LT.lt Nat instLTNat (L' + 1 + 1) D0 ∧ @LT.lt Nat instLTNat (L' + 1) D0) (dS : oS.data = .cell (some (.ref D0)))
    (hsz1 : 37 ≤ sz) (hsz2 : sz ≤ 76) (hcn1 : 1 ≤ cn) (hcn2 : cn ≤ 4294967295) (hnb1 : 0 ≤ nb) (hnb2 : nb ≤ 16777215)
    (hIb : IntsAre wb BB) (hBl : BB.length ≤ 60) (hOB : Oct BB) (dA : ∃ v, oA.data = .cell (some v))
    (lB : @LT.lt Nat instLTNat (D0) DB ∧ @LT.lt Nat instLTNat (L' + 1 + 1 + 1) DB ∧ @LT.lt Nat instLTNat (L' + 1 + 1) DB ∧ @LT.lt Nat instLTNat (L' + 1) DB)
    (NA : News s.heap L' h0 [(DB, W.listOf wb.toArray 0), (D0, W.listOf ws0.toArray 0), (L' + 1 + 1 + 1, oA), (L' + 1 + 1, oO), (L' + 1, oS)]) :
    wpP (model PySem.Challenge.rw_pb0583_01.row.prog w) ((LvA 305 (some [])).deeper (envOfC "law" scope L' 344 (.ref 343))) (execs (body.drop 21) (envOfC "law" scope L' 344 (.ref 343)))
      (Done s) (fun _ _ => False) { s with heap := h0, toks := tk0 } := by
  obtain ⟨X, p, loose, mean, mg, mb, T⟩ := G
  revert X; k_fill; intro X
  refine' (fun e => ?k) (same_fn ho ?e)
  case e => k_is
  obtain ⟨e1, e2⟩ := e
  subst e1 e2
  dsimp only [List.drop]
  obtain ⟨vA, dA⟩ := dA
  refine .step ?_
  repeat' (first | (dsimp only; walk1) | walk1)
  try dsimp only
  rename Fr _ _ _ _ => FA
  rename News _ _ _ _ => NA
  have hO1 : BB.length ≤ 84 := by omega
  have NQ : News s.heap L' _ [(DB, W.listOf wb.toArray 0)] := fun q hq => NA q (List.mem_append_left [_, _, _, _] hq)
  refine Halt.go (atLv (d := 550) (law_sum_spec (NQ _ List.mem_cons_self).1 (gd_hide (mu := [(DB, W.listOf wb.toArray 0)]) ⟨X, p, loose, mean, mg, mb, T⟩ FA NQ) hIb hOB (by omega) fun Ds ys1 n1 hs1 tks1 his hDs hDs' ks1 => ?_))
  obtain ⟨SS, hSS⟩ : ∃ SS, SS = sumInts BB := ⟨_, rfl⟩
  have hSl : SS.length = 16 := by rw [hSS]; exact sumInts_length BB
  rw [← hSS] at his
  have F2 := fr_ext FA ks1
  have N2 := news_add FA NA ks1 hDs hDs'
  clear FA NA NQ ks1 hDs hDs'
  dsimp only at F2 N2 ⊢
  repeat' (first | (dsimp only; walk1) | walk1)
  try dsimp only
  rename Fr _ _ _ _ => FA
  rename News _ _ _ _ => NA
  refine Halt.go (kmk_add_ints FA NA ⟨_, (NA _ (List.mem_cons_of_mem _ List.mem_cons_self)).1, rfl, _, rfl⟩ ⟨_, (NA _ List.mem_cons_self).1, rfl, _, rfl⟩ hIb his (fun DX wx hx FX NX lX hIx => ?_) (by rw [hSl, sizeLine_eq]; omega))
  have NY := news_drop2 NX
  clear FA NA NX
  k_lt lX
  dsimp only
  repeat' (first | (dsimp only; walk1) | walk1)
  try dsimp only
  refine .step ?_
  repeat' (first | (dsimp only; walk1) | walk1)
  try dsimp only
  have hOx : Oct (BB ++ SS) := fun k hk => by
    rcases List.mem_append.mp hk with z | z
    · exact hOB k z
    · rw [hSS] at z; exact oct_sum BB k z
  rename Fr _ _ _ _ => FA
  rename News _ _ _ _ => NA
  rename IntsAre _ (List.take _ _) => hIv
  refine Halt.go (atLv (d := 600) (law_value_spec ⟨X.keeps FA.keep, p, loose, mean, mg, mb, T.keeps FA.keep⟩ ⟨_, (NA _ List.mem_cons_self).1, rfl, _, rfl⟩ hIv (fun k z => hOx k (List.mem_of_mem_drop (List.mem_of_mem_take z))) (by rw [List.length_take]; omega) fun v1 tv1 hv1 tkv1 _ k2 => ?_))
  have F2 := fr_ext FA k2
  have N2 : News s.heap L' _ _ := fun q hq => ⟨k2 _ _ (NA q (List.mem_cons_of_mem _ hq)).1, (NA q (List.mem_cons_of_mem _ hq)).2⟩
  clear FA NA k2 hIv
  dsimp only at F2 N2 ⊢
  repeat' (first | (dsimp only; walk1) | walk1)
  try dsimp only
  rename Fr _ _ _ _ => FA
  rename News _ _ _ _ => NA
  rename IntsAre _ (List.take _ _) => hIv
  refine Halt.go (atLv (d := 600) (law_value_spec ⟨X.keeps FA.keep, p, loose, mean, mg, mb, T.keeps FA.keep⟩ ⟨_, (NA _ List.mem_cons_self).1, rfl, _, rfl⟩ hIv (fun k z => hOx k (List.mem_of_mem_drop (List.mem_of_mem_take z))) (by rw [List.length_take]; omega) fun v2 tv2 hv2 tkv2 _ k2 => ?_))
  have F2 := fr_ext FA k2
  have N2 : News s.heap L' _ _ := fun q hq => ⟨k2 _ _ (NA q (List.mem_cons_of_mem _ hq)).1, (NA q (List.mem_cons_of_mem _ hq)).2⟩
  clear FA NA k2 hIv
  dsimp only at F2 N2 ⊢
  repeat' (first | (dsimp only; walk1) | walk1)
  try dsimp only
  rename Fr _ _ _ _ => FA
  rename News _ _ _ _ => NA
  refine .cons (.stReturn (.evAnd2 (.callName ?_)))
  repeat' (first | (dsimp only; walk1) | walk1)
  try dsimp only
  have hOl : (BB ++ SS).length ≤ 100 := by rw [List.length_append, hSl]; omega
  obtain ⟨lo, h9⟩ := news_head NA
  subst h9
  obtain ⟨q1, h9⟩ := news_head (news_tail NA)
  subst h9
  obtain ⟨q0, h9⟩ := news_head (news_tail (news_tail NA))
  subst h9
  refine .calledWith (P := fun h => (hd.heap_1 w.params).In h) rfl (fun _ _ => ⟨.machine, .inr (.inl rfl), Looks.of_pure rfl⟩) (.evalArgs1 ?_)
  refine comp_evalP FA NA (by with_unfolding_all rfl) (by decide) (by rfl) (by decide) ?_
  repeat' (first | (dsimp only; walk1) | walk1)
  try dsimp only
  rename Fr _ _ _ _ => F1
  rename News _ _ _ _ => N1
  refine Halt.go (told_iterP [(q0, cn, _, nb, _), (q1, v1, _, v2, _)] rfl rfl rfl (by decide) rfl F1 N1 ⟨_, (N1 _ List.mem_cons_self).1, rfl, _, rfl⟩ (Nat.le_of_ble_eq_true rfl)
    (List.forall_mem_cons.mpr ⟨⟨_, (N1 _ (List.mem_cons_of_mem _ (List.mem_cons_of_mem _ List.mem_cons_self))).1, rfl, _, rfl⟩, List.forall_mem_cons.mpr ⟨⟨_, (N1 _ (List.mem_cons_of_mem _ List.mem_cons_self)).1, rfl, _, rfl⟩, List.forall_mem_nil _⟩⟩) ?el ?fin)
  case el =>
    intro C m' s' xa ta xb tb h9 h8 F2 e2
    obtain ⟨h2, tk2, rfl⟩ := e2
    obtain ⟨nw, N2, cv⟩ := cover_ex F2
    have k2 := F2.keep
    have X2 := X.keeps F1.keep
    have T2 := T.keeps F1.keep
    have hc := (N1 _ (List.mem_cons_of_mem _ (List.mem_cons_of_mem _ (List.mem_cons_of_mem _ (List.mem_cons_of_mem _ (List.mem_cons_of_mem _ List.mem_cons_self)))))).1
    have hd0 := N1 _ (List.mem_cons_of_mem _ (List.mem_cons_of_mem _ (List.mem_cons_of_mem _ List.mem_cons_self)))
    have kS : Ext s.heap h2 := fun q o y => k2 q o (F1.keep q o y)
    have kF := F1.keep
    clear F1 N1
    dsimp only at F2 k2 cv hc hd0 X2 T2 ⊢
    refine .callName ?_
    k_steps
    refine .calledWith (P := fun h => (hd.heap_1 w.params).In h) rfl (keeps_K (by k_is)) (.any ?_)
    refine evalArgs_kw2 (by rfl) ?_
    k_steps
    rename Fr _ C _ _ => F3
    rename News _ C _ _ => N3
    show wpP _ _ (call (.ref 332) [.ref DX, .int xa _, .int xb _] []) _ _ _
    refine atLvP (d := 320) (law_is_told_spec (F3.keep _ _ hd0.1) (Gd.keeps ⟨X, p, loose, mean, mg, mb, T⟩ fun q o y => hideAll_get _ (F3.keep _ _ (kF q o y)) fun z => ?_) hIx hOx hOl fun h4 tk4 k4 => ElPost.of (s' := ⟨h2, _, _, _, _⟩) cv (F3.keeps k4) (N3.grown k4) (fun _ e => e) (fun _ _ => rfl) k2)
    rw [List.mem_singleton.mp z, hd0.2.2] at y
    cases y
  case fin =>
    intro D2 h3 tk3 ys F3 N3 hB
    refine ⟨X.keeps F3.keep, .any ?_⟩
    refine LSm.all_bools F3 N3 rfl ⟨_, (N3 _ List.mem_cons_self).1, rfl, _, rfl⟩ hB fun h4 tk4 F4 N4 => ?_
    refine wpAny_truthy_bool ?_
    rw [show ((List.replicate [(q0, cn, tcn, nb, tnb), (q1, v1, tv1, v2, tv2)].length true).all id) = true from rfl, if_pos rfl]
    refine .evCompare (.callName ?_)
    clear F3 N3 F1 N1
    dsimp only at F4 N4 ⊢
    repeat' (first | (dsimp only; walk1) | walk1)
    try dsimp only
    refine .calledWith (P := fun h => (hd.heap_1 w.params).In h) rfl (keeps_K (by k_is)) (.any ?_)
    refine evalArgs_kw2 (by rfl) ?_
    repeat' (first | (dsimp only; walk1) | walk1)
    try dsimp only
    refine by_of_int (by omega) (by omega) fun t8 k8 => ?_
    repeat' (first | (dsimp only; walk1) | walk1)
    try dsimp only
    rename Fr _ _ _ _ => FA
    rename News _ _ _ _ => NA
    show wpP _ _ (call (.ref 294) [.bytes (Array.replicate sz.toNat 0) _, .int cn _, .int 0 _] []) _ _ _
    have hpn : parseB (List.replicate sz.toNat 0) cn 0 = none := parse_zeros (by omega)
    refine atLvP (d := 350) (block_of_spec ⟨X.keeps FA.keep, p, loose, mean, mg, mb, T.keeps FA.keep⟩ ints_zeros (by rw [List.length_replicate]; omega) (fun _ h2 tk2 k2 => ?_) (fun r v h2 tk2 hp _ _ => by rw [hpn] at hp; cases hp))
    have F2 := fr_ext FA k2
    have N2 : News s.heap L' _ _ := fun q hq => ⟨k2 _ _ (NA q hq).1, (NA q hq).2⟩
    clear FA NA k2
    dsimp only at F2 N2 ⊢
    repeat' (first | (dsimp only; walk1) | walk1)
    try dsimp only
    rename Fr _ _ _ _ => FA
    rename News _ _ _ _ => NA
    unfold Done
    exact ⟨_, _, rfl, FA.keep, rfl⟩
-- part R4
set_option maxHeartbeats 20000000 in
theorem law_rest4 {w : World} {s : Shared} {ns BB : List Int} {ws0 wb : List Value} {oc : Value} {od : Option Addr} {osl : Array (Option Value)} {params : Arguments} {body : List Stmt} {scope : Scope} {dV kV doc pm ct : Value} {an : Option Addr} {L' : Addr} {h0 : Heap} {tk0 : Nat} {D0 DB : Addr} {oA oO oS : Obj} {m0 : Str → Option Value} {cn nb sz : Int} {tcn tnb tsz : Tok}
    (ho : (hd.heap_1 w.params).lookup 344 = some ⟨oc, od, .func (fnOf "law" "law" params body scope dV kV doc pm an (.ref 343) ct), osl⟩)
    (G : Gd w s.heap) (FA : Fr s.heap L' h0 (fun y => if y = "body" then some (.ref DB) else if y = "chain_now" then some (.int cn tcn) else if y = "number" then some (.int nb tnb) else if y = "size" then some (.int sz tsz) else m0 y))
    (hI : IntsAre ws0 ns) (hn : ns.length ≤ 63) (l0 : @LT.lt Nat instLTNat (L' + 1 + 1 + 1) D0 ∧ @LT.lt Nat instLTNat (L' + 1 + 1) D0 ∧ @LT.lt Nat instLTNat (L' + 1) D0) (dS : oS.data = .cell (some (.ref D0)))
    (hsz1 : 37 ≤ sz) (hsz2 : sz ≤ 76) (hcn1 : 1 ≤ cn) (hcn2 : cn ≤ 4294967295) (hnb1 : 0 ≤ nb) (hnb2 : nb ≤ 16777215)
    (hIb : IntsAre wb BB) (hBl : BB.length = sz.toNat - 16) (hOB : Oct BB) (dA : ∃ v, oA.data = .cell (some v))
    (lB : @LT.lt Nat instLTNat (D0) DB ∧ @LT.lt Nat instLTNat (L' + 1 + 1 + 1) DB ∧ @LT.lt Nat instLTNat (L' + 1 + 1) DB ∧ @LT.lt Nat instLTNat (L' + 1) DB)
    (NA : News s.heap L' h0 [(DB, W.listOf wb.toArray 0), (D0, W.listOf ws0.toArray 0), (L' + 1 + 1 + 1, oA), (L' + 1 + 1, oO), (L' + 1, oS)]) :
    wpP (model PySem.Challenge.rw_pb0583_01.row.prog w) ((LvA 305 (some [])).deeper (envOfC "law" scope L' 344 (.ref 343))) (execs (body.drop 20) (envOfC "law" scope L' 344 (.ref 343)))
      (Done s) (fun _ _ => False) { s with heap := h0, toks := tk0 } := by
  obtain ⟨X, p, loose, mean, mg, mb, T⟩ := G
  revert X; k_fill; intro X
  refine' (fun e => ?k) (same_fn ho ?e)
  case e => k_is
  obtain ⟨e1, e2⟩ := e
  subst e1 e2
  dsimp only [List.drop]
  refine .step ?_
  repeat' (first | (dsimp only; walk1) | walk1)
  try dsimp only
  rename Fr _ _ _ _ => FA
  rename News _ _ _ _ => NA
  refine Halt.go (atLv (d := 500) (law_cell_spec ⟨X.keeps FA.keep, p, loose, mean, mg, mb, T.keeps FA.keep⟩ (vs := ws0) ⟨_, (NA (D0, W.listOf ws0.toArray 0) (by simp)).1, rfl, _, rfl⟩ hI (by omega) (by omega) (by omega) fun vc tvc hvc tkvc _ kv => ?_))
  have F2 := fr_ext FA kv
  have N2 : News s.heap L' _ _ := fun q hq => ⟨kv _ _ (NA q hq).1, (NA q hq).2⟩
  clear FA NA kv
  dsimp only at F2 N2 ⊢
  repeat' (first | (dsimp only; walk1) | walk1)
  try dsimp only
  · skip
    rename Fr _ _ _ _ => FA
    rename News _ _ _ _ => NA
    refine Halt.go (atLv (d := 500) (law_cell_spec ⟨X.keeps FA.keep, p, loose, mean, mg, mb, T.keeps FA.keep⟩ (vs := ws0) ⟨_, (NA (D0, W.listOf ws0.toArray 0) (by simp)).1, rfl, _, rfl⟩ hI (by omega) (by omega) (by omega) fun vd tvd hvd tkvd _ kv => ?_))
    have F2 := fr_ext FA kv
    have N2 : News s.heap L' _ _ := fun q hq => ⟨kv _ _ (NA q hq).1, (NA q hq).2⟩
    clear FA NA kv
    dsimp only at F2 N2 ⊢
    repeat' (first | (dsimp only; walk1) | walk1)
    try dsimp only
    all_goals
      rename Fr _ _ _ _ => FA
      rename News _ _ _ _ => NA
      rename _ ∧ _ ∧ _ ∧ _ ∧ _ => l9
      rename IntsAre _ (List.take _ _) => hIw
      exact law_rest5 ho ⟨X, p, loose, mean, mg, mb, T⟩ (fr_over4 FA rfl rfl rfl rfl) hI hn l0 dS hsz1 hsz2 hcn1 hcn2 hnb1 hnb2 hIw (by rw [List.length_take]; omega) (fun k hk => hOB k (List.mem_of_mem_take hk)) dA l9.2 (List.forall_mem_cons.mpr ⟨NA _ List.mem_cons_self, fun q hq => NA q (List.mem_append_right [_, _] hq)⟩)
  · skip
    rename Fr _ _ _ _ => FA
    rename News _ _ _ _ => NA
    exact law_rest5 ho ⟨X, p, loose, mean, mg, mb, T⟩ (fr_over4 FA rfl rfl rfl rfl) hI hn l0 dS hsz1 hsz2 hcn1 hcn2 hnb1 hnb2 hIb (by omega) hOB dA lB NA
end
section
-- part R3
local macro_rules | `(tactic| walk_at "exec For Name Call cons nil") => `(tactic| refine Halt.mk ?_)
set_option maxHeartbeats 20000000 in
theorem law_rest3 {w : World} {s : Shared} {ns BB : List Int} {ws0 wb : List Value} {oc : Value} {od : Option Addr} {osl : Array (Option Value)} {params : Arguments} {body : List Stmt} {scope : Scope} {dV kV doc pm ct : Value} {an : Option Addr} {L' : Addr} {h0 : Heap} {tk0 : Nat} {D0 DB : Addr} {oA oO oS : Obj} {m0 : Str → Option Value} {cn nb sz : Int} {tcn tnb tsz : Tok}
    (ho : (hd.heap_1 w.params).lookup 344 = some ⟨oc, od, .func (fnOf "law" "law" params body scope dV kV doc pm an (.ref 343) ct), osl⟩)
    (G : Gd w s.heap) (FA : Fr s.heap L' h0 (fun y => if y = "body" then some (.ref DB) else if y = "chain_now" then some (.int cn tcn) else if y = "number" then some (.int nb tnb) else if y = "size" then some (.int sz tsz) else m0 y))
    (hI : IntsAre ws0 ns) (hn : ns.length ≤ 63) (l0 : @LT.lt Nat instLTNat (L' + 1 + 1 + 1) D0 ∧ @LT.lt Nat instLTNat (L' + 1 + 1) D0 ∧ @LT.lt Nat instLTNat (L' + 1) D0) (dS : oS.data = .cell (some (.ref D0)))
    (hsz1 : 37 ≤ sz) (hsz2 : sz ≤ 76) (hcn1 : 1 ≤ cn) (hcn2 : cn ≤ 4294967295) (hnb1 : 0 ≤ nb) (hnb2 : nb ≤ 16777215)
    (hIb : IntsAre wb BB) (hBl : BB.length = sz.toNat - 16) (hOB : Oct BB) (dA : ∃ v, oA.data = .cell (some v))
    (lB : @LT.lt Nat instLTNat (D0) DB ∧ @LT.lt Nat instLTNat (L' + 1 + 1 + 1) DB ∧ @LT.lt Nat instLTNat (L' + 1 + 1) DB ∧ @LT.lt Nat instLTNat (L' + 1) DB)
    (NA : News s.heap L' h0 [(DB, W.listOf wb.toArray 0), (D0, W.listOf ws0.toArray 0), (L' + 1 + 1 + 1, oA), (L' + 1 + 1, oO), (L' + 1, oS)]) :
    wpP (model PySem.Challenge.rw_pb0583_01.row.prog w) ((LvA 305 (some [])).deeper (envOfC "law" scope L' 344 (.ref 343))) (execs (body.drop 18) (envOfC "law" scope L' 344 (.ref 343)))
      (Done s) (fun _ _ => False) { s with heap := h0, toks := tk0 } := by
  obtain ⟨X, p, loose, mean, mg, mb, T⟩ := G
  revert X; k_fill; intro X
  refine' (fun e => ?k) (same_fn ho ?e)
  case e => k_is
  obtain ⟨e1, e2⟩ := e
  subst e1 e2
  dsimp only [List.drop]
  refine .step ?_
  repeat' (first | (dsimp only; walk1) | walk1)
  try dsimp only
  rename Fr _ _ _ _ => FA
  rename News _ _ _ _ => NA
  refine Halt.go (atLv (d := 500) (law_cell_spec ⟨X.keeps FA.keep, p, loose, mean, mg, mb, T.keeps FA.keep⟩ (vs := ws0) ⟨_, (NA (D0, W.listOf ws0.toArray 0) (by simp)).1, rfl, _, rfl⟩ hI (by omega) (by omega) (by omega) fun vy tvy hvy tkvy _ kv => ?_))
  have F2 := fr_ext FA kv
  have N2 : News s.heap L' _ _ := fun q hq => ⟨kv _ _ (NA q hq).1, (NA q hq).2⟩
  clear FA NA kv
  dsimp only at F2 N2 ⊢
  repeat' (first | (dsimp only; walk1) | walk1)
  try dsimp only
  refine .step ?_
  repeat' (first | (dsimp only; walk1) | walk1)
  try dsimp only
  rename Fr _ _ _ _ => FA
  rename News _ _ _ _ => NA
  refine Halt.go (wpAny_For ?_)
  repeat' (first | (dsimp only; walk1) | walk1)
  try dsimp only
  rename IsRange _ _ _ _ _ _ _ _ => hr
  rename Fr _ _ _ _ => FA
  rename News _ _ _ _ => NA
  obtain ⟨n, hn0, hn1⟩ : ∃ n : Nat, vy.fmod 4 = (n : Int) ∧ n < 4 := by
    have h1 := Int.emod_nonneg vy (show (4 : Int) ≠ 0 by decide)
    have h2 := Int.emod_lt_of_pos vy (show (0 : Int) < 4 by decide)
    rw [Int.fmod_eq_emod_of_nonneg _ (by decide)]
    exact ⟨(vy % 4).toNat, (Int.toNat_of_nonneg h1).symm, by omega⟩
  rw [hn0] at hr
  have NB : News s.heap L' _ [(DB, W.listOf wb.toArray 0), (D0, W.listOf ws0.toArray 0), (L' + 1 + 1 + 1, oA), (L' + 1 + 1, oO), (L' + 1, oS)] := NA
  refine Halt.go (for_range (n := n) (led := [(DB, W.listOf wb.toArray 0), (D0, W.listOf ws0.toArray 0), (L' + 1 + 1 + 1, oA), (L' + 1 + 1, oO), (L' + 1, oS)]) (fun i m' l' => (∃ wb' B', IntsAre wb' B' ∧ Oct B' ∧ B'.length = sz.toNat - 16 ∧ l' = [(DB, W.listOf wb'.toArray 0), (D0, W.listOf ws0.toArray 0), (L' + 1 + 1 + 1, oA), (L' + 1 + 1, oO), (L' + 1, oS)]) ∧
    m' (Str.ofString "body") = some (.ref DB) ∧ m' (Str.ofString "chain_now") = some (.int cn tcn) ∧ m' (Str.ofString "number") = some (.int nb tnb) ∧ m' (Str.ofString "size") = some (.int sz tsz) ∧ m' (Str.ofString "y") = some (.int vy tvy)) (fun i m' l' h => by obtain ⟨⟨wb', B', _, _, _, e⟩, _⟩ := h; rw [e]; rfl) rfl rfl rfl FA NB hr (small_one (by omega) (by omega) (by omega) (by omega)) (rangeSize1 n)
    ⟨⟨wb, BB, hIb, hOB, hBl, rfl⟩, rfl, rfl, rfl, rfl, rfl⟩ ?turn ?done)
  case turn =>
    rintro i m' l' h1 tk1 I tI hi' ⟨⟨wb', B', hIb', hOB', hBl', rfl⟩, e1, e2, e3, e4, e5⟩ lI F1 N1
    obtain ⟨m'', rfl⟩ := map5 e1 e2 e3 e4 e5
    clear e1 e2 e3 e4 e5 FA NA NB hr
    k_lt lI
    refine halt_post ?_
    repeat' (first | (dsimp only; walk1) | walk1)
    try dsimp only
    obtain ⟨dv, hdv, hdp, hdq⟩ : ∃ d : Int, 5000 ^ (0 + (i : Int) * 1).toNat = d ∧ 0 < d ∧ d.natAbs.log2 < 9000 := by
      have h4 : i = 0 ∨ i = 1 ∨ i = 2 ∨ i = 3 := by omega
      rcases h4 with rfl | rfl | rfl | rfl <;> exact ⟨_, rfl, by decide, by decide +kernel⟩
    rw [hdv]
    refine floordiv_int (by omega) ?_ (Or.inl (PyProof.noPylong_of_log2 hdq))
    repeat' (first | (dsimp only; walk1) | walk1)
    try dsimp only
    rename Fr _ _ _ _ => FA
    rename News _ _ _ _ => NA
    rename IntsAre (List.set _ _ _) _ => hiw
    exact Halt.go ⟨_, _, _, _, rfl, rfl, FA, NA, ⟨_, _, hiw, oct_set hOB' _ (by rw [Int.fmod_eq_emod_of_nonneg _ (by decide)]; omega), by rw [List.length_set]; exact hBl', rfl⟩, rfl, rfl, rfl, rfl, rfl⟩
  case done =>
    rintro m' l' h1 tk1 ⟨⟨wb', B', hIb', hOB', hBl', rfl⟩, e1, e2, e3, e4, e5⟩ F1 N1
    clear FA NA NB hr
    dsimp only
    exact law_rest4 ho ⟨X, p, loose, mean, mg, mb, T⟩ (fr_over4 F1 e1 e2 e3 e4) hI hn l0 dS hsz1 hsz2 hcn1 hcn2 hnb1 hnb2 hIb' hBl' hOB' dA lB N1
end
section
-- part R2
set_option maxHeartbeats 20000000 in
theorem law_rest2 {w : World} {s : Shared} {ns BB SS : List Int} {ws0 wb yo : List Value} {oc : Value} {od : Option Addr} {osl : Array (Option Value)} {params : Arguments} {body : List Stmt} {scope : Scope} {dV kV doc pm ct : Value} {an : Option Addr} {L' : Addr} {h0 : Heap} {tk0 no : Nat} {D0 DO DB : Addr} {oA oO oS : Obj} {m0 : Str → Option Value} {cn nb sz : Int} {tcn tnb tsz : Tok}
    (ho : (hd.heap_1 w.params).lookup 344 = some ⟨oc, od, .func (fnOf "law" "law" params body scope dV kV doc pm an (.ref 343) ct), osl⟩)
    (G : Gd w s.heap) (FA : Fr s.heap L' h0 (fun y => if y = "body" then some (.ref DB) else if y = "chain_now" then some (.int cn tcn) else if y = "number" then some (.int nb tnb) else if y = "size" then some (.int sz tsz) else m0 y))
    (hI : IntsAre ws0 ns) (hn : ns.length ≤ 63) (l0 : @LT.lt Nat instLTNat (L' + 1 + 1 + 1) D0 ∧ @LT.lt Nat instLTNat (L' + 1 + 1) D0 ∧ @LT.lt Nat instLTNat (L' + 1) D0) (dS : oS.data = .cell (some (.ref D0)))
    (hsz1 : 37 ≤ sz) (hsz2 : sz ≤ 76) (hcn1 : 1 ≤ cn) (hcn2 : cn ≤ 4294967295) (hnb1 : 0 ≤ nb) (hnb2 : nb ≤ 16777215)
    (hIo : IntsAre yo (BB ++ SS)) (hIb : IntsAre wb BB) (hSS : SS = sumInts BB) (hSl : SS.length = 16) (hBl : BB.length = sz.toNat - 16) (hOB : Oct (BB ++ SS)) (dA : oA.data = .cell none) (dO : oO.data = .cell (some (.ref DO)))
    (lO : @LT.lt Nat instLTNat (D0) DO ∧ @LT.lt Nat instLTNat (L' + 1 + 1 + 1) DO ∧ @LT.lt Nat instLTNat (L' + 1 + 1) DO ∧ @LT.lt Nat instLTNat (L' + 1) DO) (lB : @LT.lt Nat instLTNat (DO) DB ∧ @LT.lt Nat instLTNat (D0) DB ∧ @LT.lt Nat instLTNat (L' + 1 + 1 + 1) DB ∧ @LT.lt Nat instLTNat (L' + 1 + 1) DB ∧ @LT.lt Nat instLTNat (L' + 1) DB)
    (NA : News s.heap L' h0 [(DB, W.listOf wb.toArray 0), (DO, W.listOf yo.toArray no), (D0, W.listOf ws0.toArray 0), (L' + 1 + 1 + 1, oA), (L' + 1 + 1, oO), (L' + 1, oS)]) :
    wpP (model PySem.Challenge.rw_pb0583_01.row.prog w) ((LvA 305 (some [])).deeper (envOfC "law" scope L' 344 (.ref 343))) (execs (body.drop 14) (envOfC "law" scope L' 344 (.ref 343)))
      (Done s) (fun _ _ => False) { s with heap := h0, toks := tk0 } := by
  obtain ⟨X, p, loose, mean, mg, mb, T⟩ := G
  revert X; k_fill; intro X
  refine' (fun e => ?k) (same_fn ho ?e)
  case e => k_is
  obtain ⟨e1, e2⟩ := e
  subst e1 e2
  dsimp only [List.drop]
  refine .step ?_
  repeat' (first | (dsimp only; walk1) | walk1)
  try dsimp only
  rename Fr _ _ _ _ => FA
  rename News _ _ _ _ => NA
  refine Halt.go (atLv (d := 500) (law_cell_spec ⟨X.keeps FA.keep, p, loose, mean, mg, mb, T.keeps FA.keep⟩ (vs := ws0) ⟨_, (NA (D0, W.listOf ws0.toArray 0) (by simp)).1, rfl, _, rfl⟩ hI (by omega) (by omega) (by omega) fun vx tvx hvx tkvx _ kv => ?_))
  have F2 := fr_ext FA kv
  have N2 : News s.heap L' _ _ := fun q hq => ⟨kv _ _ (NA q hq).1, (NA q hq).2⟩
  clear FA NA kv
  dsimp only at F2 N2 ⊢
  repeat' (first | (dsimp only; walk1) | walk1)
  try dsimp only
  refine .step ?_
  repeat' (first | (dsimp only; walk1) | walk1)
  try dsimp only
  rename Fr _ _ _ _ => FA
  rename News _ _ _ _ => NA
  have hyo : yo.length = sz.toNat := by rw [hIo.length, List.length_append, hSl, hBl]; omega
  refine Halt.go (list_copyK FA NA ⟨_, (NA _ (List.mem_cons_of_mem _ List.mem_cons_self)).1, rfl, _, rfl⟩ (fun DX nx hx Fx Nx lx => ?_) (by rw [List.size_toArray, hyo, sizeLine_eq]; omega))
  clear FA NA
  k_lt lx
  dsimp only
  repeat' (first | (dsimp only; walk1) | walk1)
  try dsimp only
  refine .step ?_
  repeat' (first | (dsimp only; walk1) | walk1)
  try dsimp only
  rename Fr _ _ _ _ => FA
  rename News _ _ _ _ => NA
  rename IntsAre (List.set _ _ _) _ => hiw
  obtain ⟨i, hi⟩ : ∃ i, (vx.fmod sz).toNat = i := ⟨_, rfl⟩
  have hib : i < BB.length + 16 := by
    have h1 := Int.emod_nonneg vx (show sz ≠ 0 by omega)
    have h2 := Int.emod_lt_of_pos vx (show 0 < sz by omega)
    rw [Int.fmod_eq_emod_of_nonneg _ (show 0 ≤ sz by omega)] at hi
    omega
  rw [hi] at NA hiw
  obtain ⟨v, hv⟩ : ∃ v, (((BB ++ SS).getD i 0 + 1 + (vx.fdiv sz).fmod 255).fmod 256) = v := ⟨_, rfl⟩
  rw [hv] at NA hiw
  have hob := oct_getD hOB i
  have hvv := new_octet hob.1 hob.2 hv
  have hpn : parseB ((BB ++ SS).set i v) cn nb = none := by
    rw [hSS] at hvv ⊢
    exact parse_wrong (fun k hk => hOB k (List.mem_append_left _ hk)) hib hvv.1 hvv.2
  have hO2 : Oct ((BB ++ SS).set i v) := oct_set hOB i hvv.1
  have hL2 : ((BB ++ SS).set i v).length ≤ 100 := by rw [List.length_set, List.length_append, hSl, hBl]; omega
  generalize yo.set i _ = y2 at NA hiw
  generalize (BB ++ SS).set i v = ks2 at hpn hO2 hL2 hiw
  clear hv hvv hob hib hi
  refine .cons (.stIf (.isBool (.isOr (.isCompare (.callName ?_)))))
  repeat' (first | (dsimp only; walk1) | walk1)
  try dsimp only
  refine .calledWith (P := fun h => (hd.heap_1 w.params).In h) rfl (keeps_K (by k_is)) (.any ?_)
  refine evalArgs_kw2 (by rfl) ?_
  repeat' (first | (dsimp only; walk1) | walk1)
  try dsimp only
  rename Fr _ _ _ _ => FA
  rename News _ _ _ _ => NA
  rename KBa.In ks2 => hin
  show wpP _ _ (call (.ref 294) [.bytes (PySem.byteArr ks2) _, .int cn _, .int nb _] []) _ _ _
  refine atLvP (d := 350) (block_of_spec ⟨X.keeps FA.keep, p, loose, mean, mg, mb, T.keeps FA.keep⟩ (KBa.ints_make hin) hL2 (fun _ h2 tk2 k2 => ?_) (fun r v h2 tk2 hp _ _ => by rw [hpn] at hp; cases hp))
  have F2 := fr_ext FA k2
  have N2 : News s.heap L' _ _ := fun q hq => ⟨k2 _ _ (NA q hq).1, (NA q hq).2⟩
  clear FA NA k2
  dsimp only at F2 N2 ⊢
  repeat' (first | (dsimp only; walk1) | walk1)
  try dsimp only
  rename Fr _ _ _ _ => FA
  rename News _ _ _ _ => NA
  refine .isOr (.isNot (.isCall (.callName ?_)))
  repeat' (first | (dsimp only; walk1) | walk1)
  try dsimp only
  refine .calledWith (P := fun h => (hd.heap_1 w.params).In h) rfl (keeps_K (by k_is)) (.any ?_)
  refine evalArgs_kw2 (by rfl) ?_
  repeat' (first | (dsimp only; walk1) | walk1)
  try dsimp only
  rename Fr _ _ _ _ => FA
  rename News _ _ _ _ => NA
  show wpP _ _ (call (.ref 332) [.ref DX, .int cn _, .int nb _] []) _ _ _
  have NQ : News s.heap L' _ [(DX, W.listOf y2.toArray nx)] := fun q hq => NA q (List.mem_append_left [_, _, _, _, _, _] hq)
  refine atLvP (d := 320) (law_is_told_spec (NQ _ List.mem_cons_self).1 (gd_hide (mu := [(DX, W.listOf y2.toArray nx)]) ⟨X, p, loose, mean, mg, mb, T⟩ FA NQ) hiw hO2 hL2 fun h4 tk4 k4 => ?_)
  have F2 := fr_ext FA k4
  have N2 : News s.heap L' _ _ := fun q hq => ⟨k4 _ _ (NA q (List.mem_cons_of_mem _ hq)).1, (NA q (List.mem_cons_of_mem _ hq)).2⟩
  clear FA NA NQ k4
  dsimp only at F2 N2 ⊢
  repeat' (first | (dsimp only; walk1) | walk1)
  try dsimp only
  rename Fr _ _ _ _ => FA
  rename News _ _ _ _ => NA
  refine .isOrNil ?_
  try dsimp only
  rw [if_neg Bool.false_ne_true]
  refine .nil ?_
  try dsimp only
  exact law_rest3 ho ⟨X, p, loose, mean, mg, mb, T⟩ (fr_over4 FA rfl rfl rfl rfl) hI hn l0 dS hsz1 hsz2 hcn1 hcn2 hnb1 hnb2 hIb hBl (fun k hk => hOB k (List.mem_append_left _ hk)) ⟨_, by assumption⟩ lB.2 (List.forall_mem_cons.mpr ⟨NA _ List.mem_cons_self, fun q hq => NA q (List.mem_append_right [_, _] hq)⟩)
end
section
-- part R1
set_option maxHeartbeats 20000000 in
theorem law_rest1 {w : World} {s : Shared} {ns BB SS : List Int} {ws0 wb yo : List Value} {oc : Value} {od : Option Addr} {osl : Array (Option Value)} {params : Arguments} {body : List Stmt} {scope : Scope} {dV kV doc pm ct : Value} {an : Option Addr} {L' : Addr} {h0 : Heap} {tk0 no : Nat} {D0 DO DB : Addr} {oA oO oS : Obj} {m0 : Str → Option Value} {cn nb sz : Int} {tcn tnb tsz : Tok}
    (ho : (hd.heap_1 w.params).lookup 344 = some ⟨oc, od, .func (fnOf "law" "law" params body scope dV kV doc pm an (.ref 343) ct), osl⟩)
    (G : Gd w s.heap) (FA : Fr s.heap L' h0 (fun y => if y = "body" then some (.ref DB) else if y = "chain_now" then some (.int cn tcn) else if y = "number" then some (.int nb tnb) else if y = "size" then some (.int sz tsz) else m0 y))
    (hI : IntsAre ws0 ns) (hn : ns.length ≤ 63) (l0 : L' + 1 + 1 + 1 < D0 ∧ L' + 1 + 1 < D0 ∧ L' + 1 < D0) (dS : oS.data = .cell (some (.ref D0)))
    (hsz1 : 37 ≤ sz) (hsz2 : sz ≤ 76) (hcn1 : 1 ≤ cn) (hcn2 : cn ≤ 4294967295) (hnb1 : 0 ≤ nb) (hnb2 : nb ≤ 16777215)
    (hIo : IntsAre yo (BB ++ SS)) (hIb : IntsAre wb BB) (hSS : SS = sumInts BB) (hSl : SS.length = 16) (hBl : BB.length = sz.toNat - 16) (hOB : Oct (BB ++ SS)) (dA : oA.data = .cell none) (dO : oO.data = .cell (some (.ref DO)))
    (lO : D0 < DO ∧ L' + 1 + 1 + 1 < DO ∧ L' + 1 + 1 < DO ∧ L' + 1 < DO) (lB : DO < DB ∧ D0 < DB ∧ L' + 1 + 1 + 1 < DB ∧ L' + 1 + 1 < DB ∧ L' + 1 < DB)
    (NA : News s.heap L' h0 [(DB, W.listOf wb.toArray 0), (DO, W.listOf yo.toArray no), (D0, W.listOf ws0.toArray 0), (L' + 1 + 1 + 1, oA), (L' + 1 + 1, oO), (L' + 1, oS)]) :
    wpP (model PySem.Challenge.rw_pb0583_01.row.prog w) ((LvA 305 (some [])).deeper (envOfC "law" scope L' 344 (.ref 343))) (execs (body.drop 12) (envOfC "law" scope L' 344 (.ref 343)))
      (Done s) (fun _ _ => False) { s with heap := h0, toks := tk0 } := by
  obtain ⟨X, p, loose, mean, mg, mb, T⟩ := G
  revert X; k_fill; intro X
  refine' (fun e => ?k) (same_fn ho ?e)
  case e => k_is
  obtain ⟨e1, e2⟩ := e
  subst e1 e2
  dsimp only [List.drop]
  refine .step ?_
  repeat' (first | (dsimp only; walk1) | walk1)
  try dsimp only
  rename Fr _ _ _ _ => FA
  rename News _ _ _ _ => NA
  have hOl : (BB ++ SS).length ≤ 100 := by rw [List.length_append, hSl, hBl]; omega
  refine .cons (.stIf (.isNot (.isCall (.callName ?_))))
  repeat' (first | (dsimp only; walk1) | walk1)
  try dsimp only
  rename Fr _ _ _ _ => FA
  rename News _ _ _ _ => NA
  refine .calledWith (P := fun h => (hd.heap_1 w.params).In h) rfl (fun _ _ => ⟨.machine, .inr (.inl rfl), Looks.of_pure rfl⟩) (.evalArgs1 ?_)
  refine comp_evalP FA NA (by with_unfolding_all rfl) (by decide) (by rfl) (by decide) ?_
  repeat' (first | (dsimp only; walk1) | walk1)
  try dsimp only
  rename Fr _ _ _ _ => F1
  rename News _ _ _ _ => N1
  obtain ⟨lo, h9⟩ := news_head N1
  subst h9
  obtain ⟨q3, h9⟩ := news_head (news_tail N1)
  subst h9
  obtain ⟨q2, h9⟩ := news_head (news_tail (news_tail N1))
  subst h9
  obtain ⟨q1, h9⟩ := news_head (news_tail (news_tail (news_tail N1)))
  subst h9
  obtain ⟨q0, h9⟩ := news_head (news_tail (news_tail (news_tail (news_tail N1))))
  subst h9
  refine Halt.go (told_iterP [(q0, cn, _, nb, _), (q1, cn + 1, _, nb, _), (q2, cn, _, nb + 1, _), (q3, nb, _, cn, _)] rfl rfl rfl (by decide) rfl F1 N1 ⟨_, (N1 _ List.mem_cons_self).1, rfl, _, rfl⟩ (Nat.le_of_ble_eq_true rfl)
    (List.forall_mem_cons.mpr ⟨⟨_, (N1 _ (List.mem_cons_of_mem _ (List.mem_cons_of_mem _ (List.mem_cons_of_mem _ (List.mem_cons_of_mem _ List.mem_cons_self))))).1, rfl, _, rfl⟩, List.forall_mem_cons.mpr ⟨⟨_, (N1 _ (List.mem_cons_of_mem _ (List.mem_cons_of_mem _ (List.mem_cons_of_mem _ List.mem_cons_self)))).1, rfl, _, rfl⟩, List.forall_mem_cons.mpr ⟨⟨_, (N1 _ (List.mem_cons_of_mem _ (List.mem_cons_of_mem _ List.mem_cons_self))).1, rfl, _, rfl⟩, List.forall_mem_cons.mpr ⟨⟨_, (N1 _ (List.mem_cons_of_mem _ List.mem_cons_self)).1, rfl, _, rfl⟩, List.forall_mem_nil _⟩⟩⟩⟩) ?el ?fin)
  case el =>
    intro C m' s' xa ta xb tb h9 h8 F2 e2
    obtain ⟨h2, tk2, rfl⟩ := e2
    obtain ⟨nw, N2, cv⟩ := cover_ex F2
    have k2 := F2.keep
    have X2 := X.keeps F1.keep
    have T2 := T.keeps F1.keep
    have hc := (N1 _ (List.mem_cons_of_mem _ (List.mem_cons_of_mem _ (List.mem_cons_of_mem _ (List.mem_cons_of_mem _ (List.mem_cons_of_mem _ (List.mem_cons_of_mem _ (List.mem_cons_of_mem _ (List.mem_cons_of_mem _ (List.mem_cons_of_mem _ List.mem_cons_self)))))))))).1
    have hd0 := N1 _ (List.mem_cons_of_mem _ (List.mem_cons_of_mem _ (List.mem_cons_of_mem _ (List.mem_cons_of_mem _ (List.mem_cons_of_mem _ (List.mem_cons_of_mem _ List.mem_cons_self))))))
    have kS : Ext s.heap h2 := fun q o y => k2 q o (F1.keep q o y)
    have kF := F1.keep
    clear F1 N1
    dsimp only at F2 k2 cv hc hd0 X2 T2 ⊢
    refine .callName ?_
    k_steps
    refine .calledWith (P := fun h => (hd.heap_1 w.params).In h) rfl (keeps_K (by k_is)) (.any ?_)
    refine evalArgs_kw2 (by rfl) ?_
    k_steps
    rename Fr _ C _ _ => F3
    rename News _ C _ _ => N3
    show wpP _ _ (call (.ref 332) [.ref DO, .int xa _, .int xb _] []) _ _ _
    refine atLvP (d := 320) (law_is_told_spec (F3.keep _ _ hd0.1) (Gd.keeps ⟨X, p, loose, mean, mg, mb, T⟩ fun q o y => hideAll_get _ (F3.keep _ _ (kF q o y)) fun z => ?_) hIo hOB hOl fun h4 tk4 k4 => ElPost.of (s' := ⟨h2, _, _, _, _⟩) cv (F3.keeps k4) (N3.grown k4) (fun _ e => e) (fun _ _ => rfl) k2)
    rw [List.mem_singleton.mp z, hd0.2.2] at y
    cases y
  case fin =>
    intro D2 h3 tk3 ys F3 N3 hB
    refine ⟨X.keeps F3.keep, .any ?_⟩
    refine LSm.all_bools F3 N3 rfl ⟨_, (N3 _ List.mem_cons_self).1, rfl, _, rfl⟩ hB fun h4 tk4 F4 N4 => ?_
    refine wpAny_truthy_bool ?_
    rw [show ((List.replicate [(q0, cn, tcn, nb, tnb), (q1, cn + 1, tk0 + 1, nb, tnb), (q2, cn, tcn, nb + 1, tk0 + 1 + 1 + 1), (q3, nb, tnb, cn, tcn)].length true).all id) = true from rfl, if_neg (by decide)]
    refine .nil ?_
    dsimp only
    exact law_rest2 ho ⟨X, p, loose, mean, mg, mb, T⟩ (fr_over4 F4 rfl rfl rfl rfl) hI hn l0 dS hsz1 hsz2 hcn1 hcn2 hnb1 hnb2 hIo hIb hSS hSl hBl hOB dA dO lO lB (fun q hq => N4 q (List.mem_append_right [_, _, _, _, _, _] hq))
end
section
-- part R0
set_option maxHeartbeats 20000000 in
theorem law_rest0 {w : World} {s : Shared} {ns kr BB SS : List Int} {ws0 yo : List Value} {oc : Value} {od : Option Addr} {osl : Array (Option Value)} {params : Arguments} {body : List Stmt} {scope : Scope} {dV kV doc pm ct : Value} {an : Option Addr} {L' : Addr} {h0 : Heap} {tk0 no : Nat} {D0 DO pl : Addr} {oA oO oS : Obj} {m0 : Str → Option Value} {cn nb sz br p0 p1 p2 : Int} {tcn tnb tsz tbr t0 t1 t2 trw : Tok} {rb : Array UInt8}
    (ho : (hd.heap_1 w.params).lookup 344 = some ⟨oc, od, .func (fnOf "law" "law" params body scope dV kV doc pm an (.ref 343) ct), osl⟩)
    (G : Gd w s.heap) (FA : Fr s.heap L' h0 (fun y => if y = "rows" then some (.bytes rb trw) else if y = "place" then some (.ref pl) else if y = "chain_now" then some (.int cn tcn) else if y = "number" then some (.int nb tnb) else if y = "birth" then some (.int br tbr) else if y = "size" then some (.int sz tsz) else m0 y))
    (hI : IntsAre ws0 ns) (hn : ns.length ≤ 63) (l0 : @LT.lt Nat instLTNat (L' + 1 + 1 + 1) D0 ∧ @LT.lt Nat instLTNat (L' + 1 + 1) D0 ∧ @LT.lt Nat instLTNat (L' + 1) D0) (dS : oS.data = .cell (some (.ref D0)))
    (hsz1 : 37 ≤ sz) (hsz2 : sz ≤ 76) (hcn1 : 1 ≤ cn) (hcn2 : cn ≤ 4294967295) (hnb1 : 0 ≤ nb) (hnb2 : nb ≤ 16777215) (hbr1 : 0 ≤ br) (hbr2 : br ≤ 4294967295)
    (hp01 : 0 ≤ p0) (hp02 : p0 ≤ 255) (hp11 : 0 ≤ p1) (hp12 : p1 ≤ 4294967295) (hp21 : 0 ≤ p2) (hp22 : p2 ≤ 65535) (hkn : (kr.length : Int) + 36 ≤ sz) (hrk : KBw.bInts rb = kr) (hrz : rb.size = kr.length)
    (hBB : blockBody cn nb kr p0 p1 p2 br (sz.toNat - 16) = BB) (hSS : SS = sumInts BB) (hSl : SS.length = 16) (hBl : BB.length = sz.toNat - 16) (hIo : IntsAre yo (BB ++ SS)) (hOB : Oct (BB ++ SS)) (dA : oA.data = .cell none) (dO : oO.data = .cell (some (.ref DO)))
    (lo : @LT.lt Nat instLTNat (pl) DO ∧ @LT.lt Nat instLTNat (D0) DO ∧ @LT.lt Nat instLTNat (L' + 1 + 1 + 1) DO ∧ @LT.lt Nat instLTNat (L' + 1 + 1) DO ∧ @LT.lt Nat instLTNat (L' + 1) DO)
    (NA : News s.heap L' h0 [(DO, W.listOf yo.toArray no), (pl, { cls := .type "tuple", data := .seq #[.int p0 t0, .int p1 t1, .int p2 t2] }), (D0, W.listOf ws0.toArray 0), (L' + 1 + 1 + 1, oA), (L' + 1 + 1, oO), (L' + 1, oS)]) :
    wpP (model PySem.Challenge.rw_pb0583_01.row.prog w) ((LvA 305 (some [])).deeper (envOfC "law" scope L' 344 (.ref 343))) (execs (body.drop 9) (envOfC "law" scope L' 344 (.ref 343)))
      (Done s) (fun _ _ => False) { s with heap := h0, toks := tk0 } := by
  obtain ⟨X, p, loose, mean, mg, mb, T⟩ := G
  revert X; k_fill; intro X
  refine' (fun e => ?k) (same_fn ho ?e)
  case e => k_is
  obtain ⟨e1, e2⟩ := e
  subst e1 e2
  dsimp only [List.drop]
  have e4 : (256 : Int) ^ 4 = 4294967296 := by decide
  have e3 : (256 : Int) ^ 3 = 16777216 := by decide
  have e2 : (256 : Int) ^ 2 = 65536 := by decide
  have e1 : (256 : Int) ^ 1 = 256 := by decide
  refine .step ?_
  repeat' (first | (dsimp only; walk1) | walk1)
  try dsimp only
  rename Fr _ _ _ _ => FA
  rename News _ _ _ _ => NA
  refine Halt.go (atLv (d := 600) (law_digits_spec (x := cn) (n := 4) ⟨X.keeps FA.keep, p, loose, mean, mg, mb, T.keeps FA.keep⟩ (by decide) (by omega) (by show _ < (1099511627776 : Int); omega) fun Dd1 yd1 hd1 tkd1 hid1 hDd1 hDd1' kd1 => ?_))
  have F2 := fr_ext FA kd1
  have N2 := news_add FA NA kd1 hDd1 hDd1'
  clear FA NA kd1 hDd1 hDd1'
  dsimp only at F2 N2 ⊢
  repeat' (first | (dsimp only; walk1) | walk1)
  try dsimp only
  rename Fr _ _ _ _ => FA
  rename News _ _ _ _ => NA
  refine Halt.go (atLv (d := 600) (law_digits_spec (x := nb) (n := 3) ⟨X.keeps FA.keep, p, loose, mean, mg, mb, T.keeps FA.keep⟩ (by decide) (by omega) (by show _ < (1099511627776 : Int); omega) fun Dd2 yd2 hd2 tkd2 hid2 hDd2 hDd2' kd2 => ?_))
  have F2 := fr_ext FA kd2
  have N2 := news_add FA NA kd2 hDd2 hDd2'
  clear FA NA kd2 hDd2 hDd2'
  dsimp only at F2 N2 ⊢
  repeat' (first | (dsimp only; walk1) | walk1)
  try dsimp only
  rename Fr _ _ _ _ => FA
  rename News _ _ _ _ => NA
  refine Halt.go (kmk_add_ints FA NA ⟨_, (NA _ (List.mem_cons_of_mem _ List.mem_cons_self)).1, rfl, _, rfl⟩ ⟨_, (NA _ List.mem_cons_self).1, rfl, _, rfl⟩ hid1 hid2 (fun Da1 wa1 ha1 Fa1 Na1 la1 hIa1 => ?_) (by (simp only [List.length_append, dig_length, List.length_cons, List.length_nil, sizeLine_eq]; omega)))
  have Nb1 := news_drop2 Na1
  clear FA NA Na1 la1
  dsimp only
  repeat' (first | (dsimp only; walk1) | walk1)
  try dsimp only
  rename Fr _ _ _ _ => FA
  rename News _ _ _ _ => NA
  refine Halt.go (atLv (d := 600) (law_digits_spec (x := (kr.length : Int)) (n := 2) ⟨X.keeps FA.keep, p, loose, mean, mg, mb, T.keeps FA.keep⟩ (by decide) (by omega) (by show _ < (1099511627776 : Int); omega) fun Dd3 yd3 hd3 tkd3 hid3 hDd3 hDd3' kd3 => ?_))
  have F2 := fr_ext FA kd3
  have N2 := news_add FA NA kd3 hDd3 hDd3'
  clear FA NA kd3 hDd3 hDd3'
  dsimp only at F2 N2 ⊢
  repeat' (first | (dsimp only; walk1) | walk1)
  try dsimp only
  rename Fr _ _ _ _ => FA
  rename News _ _ _ _ => NA
  refine Halt.go (kmk_add_ints FA NA ⟨_, (NA _ (List.mem_cons_of_mem _ List.mem_cons_self)).1, rfl, _, rfl⟩ ⟨_, (NA _ List.mem_cons_self).1, rfl, _, rfl⟩ hIa1 hid3 (fun Da2 wa2 ha2 Fa2 Na2 la2 hIa2 => ?_) (by (simp only [List.length_append, dig_length, List.length_cons, List.length_nil, sizeLine_eq]; omega)))
  have Nb2 := news_drop2 Na2
  clear FA NA Na2 la2
  dsimp only
  repeat' (first | (dsimp only; walk1) | walk1)
  try dsimp only
  rename Fr _ _ _ _ => FA
  rename News _ _ _ _ => NA
  refine Halt.go (kmk_add_ints FA NA ⟨_, (NA _ (List.mem_cons_of_mem _ List.mem_cons_self)).1, rfl, _, rfl⟩ ⟨_, (NA _ List.mem_cons_self).1, rfl, _, rfl⟩ hIa2 (.cons p0 _ .nil) (fun Da3 wa3 ha3 Fa3 Na3 la3 hIa3 => ?_) (by (simp only [List.length_append, dig_length, List.length_cons, List.length_nil, sizeLine_eq]; omega)))
  have Nb3 := news_drop2 Na3
  clear FA NA Na3 la3
  dsimp only
  repeat' (first | (dsimp only; walk1) | walk1)
  try dsimp only
  rename Fr _ _ _ _ => FA
  rename News _ _ _ _ => NA
  refine Halt.go (atLv (d := 600) (law_digits_spec (x := p1) (n := 4) ⟨X.keeps FA.keep, p, loose, mean, mg, mb, T.keeps FA.keep⟩ (by decide) (by omega) (by show _ < (1099511627776 : Int); omega) fun Dd4 yd4 hd4 tkd4 hid4 hDd4 hDd4' kd4 => ?_))
  have F2 := fr_ext FA kd4
  have N2 := news_add FA NA kd4 hDd4 hDd4'
  clear FA NA kd4 hDd4 hDd4'
  dsimp only at F2 N2 ⊢
  repeat' (first | (dsimp only; walk1) | walk1)
  try dsimp only
  rename Fr _ _ _ _ => FA
  rename News _ _ _ _ => NA
  refine Halt.go (kmk_add_ints FA NA ⟨_, (NA _ (List.mem_cons_of_mem _ List.mem_cons_self)).1, rfl, _, rfl⟩ ⟨_, (NA _ List.mem_cons_self).1, rfl, _, rfl⟩ hIa3 hid4 (fun Da4 wa4 ha4 Fa4 Na4 la4 hIa4 => ?_) (by (simp only [List.length_append, dig_length, List.length_cons, List.length_nil, sizeLine_eq]; omega)))
  have Nb4 := news_drop2 Na4
  clear FA NA Na4 la4
  dsimp only
  repeat' (first | (dsimp only; walk1) | walk1)
  try dsimp only
  refine .step ?_
  repeat' (first | (dsimp only; walk1) | walk1)
  try dsimp only
  rename Fr _ _ _ _ => FA
  rename News _ _ _ _ => NA
  refine Halt.go (atLv (d := 600) (law_digits_spec (x := p2) (n := 2) ⟨X.keeps FA.keep, p, loose, mean, mg, mb, T.keeps FA.keep⟩ (by decide) (by omega) (by show _ < (1099511627776 : Int); omega) fun Dd5 yd5 hd5 tkd5 hid5 hDd5 hDd5' kd5 => ?_))
  have F2 := fr_ext FA kd5
  have N2 := news_add FA NA kd5 hDd5 hDd5'
  clear FA NA kd5 hDd5 hDd5'
  dsimp only at F2 N2 ⊢
  repeat' (first | (dsimp only; walk1) | walk1)
  try dsimp only
  rename Fr _ _ _ _ => FA
  rename News _ _ _ _ => NA
  refine Halt.go (kmk_add_ints FA NA ⟨_, (NA _ (List.mem_cons_of_mem _ List.mem_cons_self)).1, rfl, _, rfl⟩ ⟨_, (NA _ List.mem_cons_self).1, rfl, _, rfl⟩ hIa4 hid5 (fun Da5 wa5 ha5 Fa5 Na5 la5 hIa5 => ?_) (by (simp only [List.length_append, dig_length, List.length_cons, List.length_nil, sizeLine_eq]; omega)))
  have Nb5 := news_drop2 Na5
  clear FA NA Na5 la5
  dsimp only
  repeat' (first | (dsimp only; walk1) | walk1)
  try dsimp only
  rename Fr _ _ _ _ => FA
  rename News _ _ _ _ => NA
  refine Halt.go (atLv (d := 600) (law_digits_spec (x := br) (n := 4) ⟨X.keeps FA.keep, p, loose, mean, mg, mb, T.keeps FA.keep⟩ (by decide) (by omega) (by show _ < (1099511627776 : Int); omega) fun Dd6 yd6 hd6 tkd6 hid6 hDd6 hDd6' kd6 => ?_))
  have F2 := fr_ext FA kd6
  have N2 := news_add FA NA kd6 hDd6 hDd6'
  clear FA NA kd6 hDd6 hDd6'
  dsimp only at F2 N2 ⊢
  repeat' (first | (dsimp only; walk1) | walk1)
  try dsimp only
  rename Fr _ _ _ _ => FA
  rename News _ _ _ _ => NA
  refine Halt.go (kmk_add_ints FA NA ⟨_, (NA _ (List.mem_cons_of_mem _ List.mem_cons_self)).1, rfl, _, rfl⟩ ⟨_, (NA _ List.mem_cons_self).1, rfl, _, rfl⟩ hIa5 hid6 (fun Da6 wa6 ha6 Fa6 Na6 la6 hIa6 => ?_) (by (simp only [List.length_append, dig_length, List.length_cons, List.length_nil, sizeLine_eq]; omega)))
  have Nb6 := news_drop2 Na6
  clear FA NA Na6 la6
  dsimp only
  repeat' (first | (dsimp only; walk1) | walk1)
  try dsimp only
  rename Fr _ _ _ _ => FA
  rename News _ _ _ _ => NA
  refine Halt.go (list_of_bytes rfl FA NA (fun DR yr nr hr2 tkr hIr Fr2 Nr2 lr => ?_) (by rw [hrz, sizeLine_eq]; omega))
  rw [hrk] at hIr
  clear FA NA lr
  dsimp only
  repeat' (first | (dsimp only; walk1) | walk1)
  try dsimp only
  rename Fr _ _ _ _ => FA
  rename News _ _ _ _ => NA
  refine Halt.go (kmk_add_ints FA NA ⟨_, (NA _ (List.mem_cons_of_mem _ List.mem_cons_self)).1, rfl, _, rfl⟩ ⟨_, (NA _ List.mem_cons_self).1, rfl, _, rfl⟩ hIa6 hIr (fun Da7 wa7 ha7 Fa7 Na7 la7 hIa7 => ?_) (by (simp only [List.length_append, dig_length, List.length_cons, List.length_nil, sizeLine_eq]; omega)))
  have Nb7 := news_drop2 Na7
  clear FA NA Na7 la7
  dsimp only
  repeat' (first | (dsimp only; walk1) | walk1)
  try dsimp only
  rename Fr _ _ _ _ => FA
  rename News _ _ _ _ => NA
  rename IntsAre _ (List.flatten (List.replicate _ [0])) => hzr
  refine Halt.go (kmk_add_ints FA NA ⟨_, (NA _ (List.mem_cons_of_mem _ (List.mem_cons_of_mem _ List.mem_cons_self))).1, rfl, _, rfl⟩ ⟨_, (NA _ List.mem_cons_self).1, rfl, _, rfl⟩ hIa7 hzr (fun DB wb hb8 FB8 NB8 lB hIb => ?_) (by simp only [List.length_append, dig_length, List.length_cons, List.length_nil, sizeLine_eq, List.length_flatten, List.map_replicate, List.sum_replicate_nat]; omega))
  have eBB : dig cn 4 ++ dig nb 3 ++ dig (kr.length : Int) 2 ++ [p0] ++ dig p1 4 ++ dig p2 2 ++ dig br 4 ++ kr ++ (List.replicate (sz - 36 - (kr.length : Int)).toNat [0]).flatten = BB := by
    rw [← hBB]
    unfold blockBody
    rw [dig_one (by omega) (by omega), show (sz - 36 - (kr.length : Int)).toNat = sz.toNat - 16 - 20 - kr.length by omega, List.flatten_replicate_singleton]
  rw [eBB] at hIb
  have NB9 := news_drop3 NB8
  clear FA NA NB8 eBB hzr hIa1 hIa2 hIa3 hIa4 hIa5 hIa6 hIa7 hid1 hid2 hid3 hid4 hid5 hid6 hIr
  k_lt lB
  dsimp only
  repeat' (first | (dsimp only; walk1) | walk1)
  try dsimp only
  refine .step ?_
  repeat' (first | (dsimp only; walk1) | walk1)
  try dsimp only
  rename Fr _ _ _ _ => FA
  rename News _ _ _ _ => NA
  have hBl2 : BB.length ≤ 60 := by omega
  have hOl : (BB ++ SS).length ≤ 100 := by rw [List.length_append, hSl]; omega
  have NQ : News s.heap L' _ [(DB, W.listOf wb.toArray 0)] := fun q hq => NA q (List.mem_append_left [_, _, _, _, _, _] hq)
  refine Halt.go (atLv (d := 550) (law_sum_spec (NQ _ List.mem_cons_self).1 (gd_hide (mu := [(DB, W.listOf wb.toArray 0)]) ⟨X, p, loose, mean, mg, mb, T⟩ FA NQ) hIb (fun k hk => hOB k (List.mem_append_left _ hk)) (by omega) fun Ds ys1 n1 hs1 tks1 his hDs hDs' ks1 => ?_))
  rw [← hSS] at his
  have F2 := fr_ext FA ks1
  have N2 := news_add FA NA ks1 hDs hDs'
  clear FA NA NQ ks1 hDs hDs'
  dsimp only at F2 N2 ⊢
  repeat' (first | (dsimp only; walk1) | walk1)
  try dsimp only
  rename Fr _ _ _ _ => FA
  rename News _ _ _ _ => NA
  refine Halt.go (kmk_add_ints FA NA ⟨_, (NA _ (List.mem_cons_of_mem _ List.mem_cons_self)).1, rfl, _, rfl⟩ ⟨_, (NA _ List.mem_cons_self).1, rfl, _, rfl⟩ hIb his (fun Dab wab hab Fab Nab lab hIab => ?_) (by rw [hSl, sizeLine_eq]; omega))
  have Nac := news_drop1 Nab
  clear FA NA Nab lab
  dsimp only
  repeat' (first | (dsimp only; walk1) | walk1)
  try dsimp only
  rename Fr _ _ _ _ => FA
  rename News _ _ _ _ => NA
  have y1 := (NA _ (List.mem_cons_of_mem _ (List.mem_cons_of_mem _ List.mem_cons_self))).1
  have y2 := (NA _ List.mem_cons_self).1
  dsimp only at y1 y2
  refine Halt.go (ne_intsK ⟨_, y1, rfl, _, rfl⟩ hIo ⟨_, y2, rfl, _, rfl⟩ hIab (by exact Nat.le_of_ble_eq_true rfl) ?_)
  rw [decide_eq_true rfl]
  clear y1 y2
  have N3 : News s.heap L' _ _ := fun q hq => NA q (List.mem_cons_of_mem _ hq)
  clear NA
  repeat' (first | (dsimp only; walk1) | walk1)
  try dsimp only
  rename Fr _ _ _ _ => FA
  rename News _ _ _ _ => NA
  have hPB : parseB (BB ++ SS) cn nb = some (kr, (p0, p1, p2), br) := by
    rw [hSS, ← hBB]
    exact parse_block (by omega) (by omega) ⟨by omega, by rw [e4]; omega⟩ ⟨by omega, by rw [e3]; omega⟩ ⟨by omega, by rw [e1]; omega⟩ ⟨by omega, by rw [e4]; omega⟩ ⟨by omega, by rw [e2]; omega⟩ ⟨by omega, by rw [e4]; omega⟩
  have NO : News s.heap L' _ [(DO, W.listOf yo.toArray no)] := List.forall_mem_cons.mpr ⟨NA _ (List.mem_cons_of_mem _ List.mem_cons_self), List.forall_mem_nil _⟩
  refine Halt.go (atLv (d := 500) (law_read_spec (NO _ List.mem_cons_self).1 (gd_hide (mu := [(DO, W.listOf yo.toArray no)]) ⟨X, p, loose, mean, mg, mb, T⟩ FA NO) hIo hOB hOl (fun z => by rw [hPB] at z; cases z) (fun rd vd' hrd tkrd hprd hDue krd => ?_)))
  rw [hPB] at hprd
  cases Option.some.inj hprd
  obtain ⟨Dd, RL, PT, tbd, x3, x4, x5, yd, nd, rfl, hyd, hobd⟩ := hDue
  dsimp only at hyd hobd krd
  have F2 := fr_ext FA krd
  have N2 := News.app (news_of FA hobd) (fun q hq => ⟨krd _ _ (NA q hq).1, (NA q hq).2⟩)
  clear FA NA NO krd hobd hprd
  dsimp only [List.cons_append, List.nil_append] at F2 N2 ⊢
  repeat' (first | (dsimp only; walk1) | walk1)
  try dsimp only
  rename Fr _ _ _ _ => FA
  rename News _ _ _ _ => NA
  refine Halt.go (list_of_bytes rfl FA NA (fun DR yr nr hr2 tkr hIr Fr2 Nr2 lr => ?_) (by rw [hrz, sizeLine_eq]; omega))
  rw [hrk] at hIr
  clear FA NA lr
  dsimp only
  repeat' (first | (dsimp only; walk1) | walk1)
  try dsimp only
  rename Fr _ _ _ _ => FA
  rename News _ _ _ _ => NA
  have y0 := (NA _ List.mem_cons_self).1
  have y1 := (NA _ (List.mem_cons_of_mem _ List.mem_cons_self)).1
  have y2 := (NA _ (List.mem_cons_of_mem _ (List.mem_cons_of_mem _ List.mem_cons_self))).1
  have y3 := (NA _ (List.mem_cons_of_mem _ (List.mem_cons_of_mem _ (List.mem_cons_of_mem _ List.mem_cons_self)))).1
  have y4 := (NA _ (List.mem_cons_of_mem _ (List.mem_cons_of_mem _ (List.mem_cons_of_mem _ (List.mem_cons_of_mem _ List.mem_cons_self))))).1
  have y7 := (NA _ (List.mem_cons_of_mem _ (List.mem_cons_of_mem _ (List.mem_cons_of_mem _ (List.mem_cons_of_mem _ (List.mem_cons_of_mem _ (List.mem_cons_of_mem _ (List.mem_cons_of_mem _ List.mem_cons_self)))))))).1
  dsimp only at y0 y1 y2 y3 y4 y7
  refine Halt.go (ne_read y2 y3 y4 hyd y0 y1 y7 hIr (by exact Nat.le_of_ble_eq_true rfl) ?_)
  clear y0 y1 y2 y3 y4 y7
  have N3 : News s.heap L' _ [(DB, _), (DO, _), (D0, W.listOf ws0.toArray 0), (L' + 1 + 1 + 1, oA), (L' + 1 + 1, _), (L' + 1, oS)] := List.forall_mem_cons.mpr ⟨NA _ (List.mem_cons_of_mem _ (List.mem_cons_of_mem _ (List.mem_cons_of_mem _ (List.mem_cons_of_mem _ (List.mem_cons_of_mem _ List.mem_cons_self))))), List.forall_mem_cons.mpr ⟨NA _ (List.mem_cons_of_mem _ (List.mem_cons_of_mem _ (List.mem_cons_of_mem _ (List.mem_cons_of_mem _ (List.mem_cons_of_mem _ (List.mem_cons_of_mem _ List.mem_cons_self)))))), fun q hq => NA q (List.mem_append_right [_, _, _, _, _, _, _, _] hq)⟩⟩
  clear NA hIr hyd hIab his
  repeat' (first | (dsimp only; walk1) | walk1)
  try dsimp only
  rename Fr _ _ _ _ => FA
  rename News _ _ _ _ => NA
  exact law_rest1 ho ⟨X, p, loose, mean, mg, mb, T⟩ (fr_over4 FA rfl rfl rfl rfl) hI hn l0 dS hsz1 hsz2 hcn1 hcn2 hnb1 hnb2 hIo hIb hSS hSl hBl hOB dA dO lo.2 ⟨lB.2.2.2.1, lB.2.2.2.2.2⟩ NA
end
section
-- part P25
set_option maxHeartbeats 20000000 in
theorem law_spec {w : World} {s : Shared} {Q E : Value → Shared → Prop} {a : Addr} {vs : List Value} {ns : List Int}
    (G : Gd w s.heap) (hl : s.heap.IsList a vs.toArray) (hi : IntsAre vs ns) (hn : ns.length ≤ 63)
    (ret : ∀ h' tk, Ext s.heap h' → Q (.bool true) { s with heap := h', toks := tk }) :
    wpP (model PySem.Challenge.rw_pb0583_01.row.prog w) (LvA 305 (some [])) (call (.ref 344) [.ref a]) Q E s := by
  obtain ⟨X, p, loose, mean, mg, mb, T⟩ := G
  revert X; k_fill; intro X
  refine .called ?_
  refine' enterPPC (binds := [("script", .ref a)]) (mL := fun y => none) (mC := fun y => if y = "script" then some (.ref a) else none) ?k1 ?k2 ?k3 ?k4 ?k5 ?k6 ?k7 ?k8 ?m1 ?m2 ?_ ?c2 ?c3 ?c4
  (k_dflt ((case k1 => k_asm); (case k2 => k_asm); (case k3 => k_is); (case k4 => k_is); (case k5 => exact Nat.le_of_ble_eq_true rfl); (case k6 => first | exact BindsTo.of_eq rfl | exact binds_K (by k_in) rfl (by k_is) rfl rfl rfl); (case k7 => exact rfl); (case k8 => decide +kernel); (case m1 => rfl); (case m2 => rfl); (case c2 => exact rfl); (case c3 => exact rfl); (case c4 => exact rfl)))
  intro L' h' tk' cells' hL F' N' Y'
  k_cells Y'
  refine wpP.mono (E := fun _ _ => False) (Q := Done s) ?_
    (fun fl s' q => by obtain ⟨h', tk, rfl, e1, rfl⟩ := q; exact ret h' tk e1) (fun _ _ q => q.elim)
  refine .step ?_
  k_steps
  dsimp only
  rename_i oA oB o3 dA dB d3 D0 ws0 _ hI hC0 hL0 l0 _ oS FA NA dS
  rw [List.take_of_length_le hn] at hI
  have dA' : oA.data = Data.cell none := dA
  have dB' : oB.data = Data.cell none := dB
  clear d3 hC0 hL0 dA dB
  refine .step ?_
  k_steps
  rename IsRange _ _ _ _ _ _ _ _ => hr
  rename Fr s.heap _ _ _ => F1
  rename News s.heap _ _ _ => N1
  refine Halt.go (range_iter (R := fun i _ y => ∃ t, y = .int (cellv ns i) t) (n := 4) (by rfl) (by rfl) (by rfl) F1 N1 hr (by decide) (by decide) (by rw [sizeLine_eq]; omega) ?el ?fin)
  case el =>
    intro i t C m' s' hi' h0 F2 e2 E2
    obtain ⟨h2, tk2, rfl⟩ := e2
    obtain ⟨nw, N2, cv⟩ := cover_ex F2
    have k2 := F2.keep
    have X2 := X.keeps F1.keep
    have T2 := T.keeps F1.keep
    have hc := (N1 (L' + 1, oS) (by simp)).1
    have hd0 := (N1 (D0, W.listOf ws0.toArray 0) (by simp)).1
    have hi7 : (i : Int) < 4 := by omega
    have hi0 : 0 ≤ (i : Int) := by omega
    k_steps
    rename Fr _ C _ _ => F3
    rename News _ C _ _ => N3
    refine Halt.go (atLv (d := 500) (law_cell_spec ⟨X2.keeps F3.keep, p, loose, mean, mg, mb, T2.keeps F3.keep⟩ (vs := ws0) ⟨_, F3.keep _ _ hd0, rfl, _, rfl⟩ hI (by omega) (by omega) (by omega) fun v t4 h4 tk4 hv k4 => ?_))
    exact ElPost.int (s' := ⟨h2, _, _, _, _⟩) cv k2 (F3.keeps k4) (N3.grown k4) (fun _ e => e) (by rw [hv]; congr 1; omega)
  case fin =>
    rintro s₂ ⟨h2, tk2, rfl⟩
    intro D h3 tk3 ys k3 F3 N3 hD hl3 hR
    obtain ⟨y0, y1, y2, y3, rfl⟩ := fourv hl3
    obtain ⟨ta, rfl⟩ := hR 0 y0 rfl
    obtain ⟨tb, rfl⟩ := hR 1 y1 rfl
    obtain ⟨tc, rfl⟩ := hR 2 y2 rfl
    obtain ⟨td, rfl⟩ := hR 3 y3 rfl
    clear hR F1 N1 hr
    dsimp only
    repeat' (first | (dsimp only; walk1) | walk1)
    try dsimp only
    rename Fr _ _ _ _ => FA
    rename News _ _ _ _ => NA
    generalize cellv ns ((0 : Nat) : Int) = va at FA NA
    generalize cellv ns ((1 : Nat) : Int) = vb at FA NA
    generalize cellv ns ((2 : Nat) : Int) = vc at FA NA
    generalize cellv ns ((3 : Nat) : Int) = vd at FA NA
    have NB : News s.heap L' _ [(D0, W.listOf ws0.toArray 0), (L' + 1 + 1 + 1, oA), (L' + 1 + 1, oB), (L' + 1, oS)] := fun q hq => NA q (List.mem_cons_of_mem _ hq)
    clear NA
    refine .step ?_
    repeat' (first | (dsimp only; walk1) | walk1)
    try dsimp only
    rename Fr _ _ _ _ => FA
    rename News _ _ _ _ => NA
    refine Halt.go (atLv (d := 500) (law_cell_spec ⟨X.keeps FA.keep, p, loose, mean, mg, mb, T.keeps FA.keep⟩ (vs := ws0) ⟨_, (NA (D0, W.listOf ws0.toArray 0) (by simp)).1, rfl, _, rfl⟩ hI (by omega) (by omega) (by omega) fun v4 tv4 hv4 tkv4 _ kv => ?_))
    have F2 := fr_ext FA kv
    have N2 : News s.heap L' _ _ := fun q hq => ⟨kv _ _ (NA q hq).1, (NA q hq).2⟩
    clear FA NA kv
    dsimp only at F2 N2 ⊢
    repeat' (first | (dsimp only; walk1) | walk1)
    try dsimp only
    rename Fr _ _ _ _ => FA
    rename News _ _ _ _ => NA
    obtain ⟨sz, hsz1, hsz2, hsz⟩ : ∃ y : Int, 37 ≤ y ∧ y ≤ 76 ∧ 37 + v4.fmod 40 = y := ⟨_, by rw [Int.fmod_eq_emod_of_nonneg _ (by decide)]; omega, by rw [Int.fmod_eq_emod_of_nonneg _ (by decide)]; omega, rfl⟩
    rw [hsz] at FA
    clear hsz
    generalize tkv4 + 1 + 1 = tsz at FA ⊢
    refine .step ?_
    repeat' (first | (dsimp only; walk1) | walk1)
    try dsimp only
    rename Fr _ _ _ _ => FA
    rename News _ _ _ _ => NA
    rw [show (2 : Int) ^ Int.toNat 32 - 1 = 4294967295 from rfl, show (2 : Int) ^ Int.toNat 32 = 4294967296 from rfl, show (2 : Int) ^ Int.toNat 24 = 16777216 from rfl] at FA
    have NB : News s.heap L' _ [(D0, W.listOf ws0.toArray 0), (L' + 1 + 1 + 1, oA), (L' + 1 + 1, oB), (L' + 1, oS)] := fun q hq => NA q (List.mem_cons_of_mem _ hq)
    clear NA
    obtain ⟨cn, hcn1, hcn2, hcn⟩ : ∃ y : Int, 1 ≤ y ∧ y ≤ 4294967295 ∧ 1 + va.fmod 4294967295 = y := ⟨_, by rw [Int.fmod_eq_emod_of_nonneg _ (by decide)]; omega, by rw [Int.fmod_eq_emod_of_nonneg _ (by decide)]; omega, rfl⟩
    rw [hcn] at FA
    clear hcn
    obtain ⟨nb, hnb1, hnb2, hnb⟩ : ∃ y : Int, 0 ≤ y ∧ y ≤ 16777215 ∧ vb.fmod 16777216 = y := ⟨_, by rw [Int.fmod_eq_emod_of_nonneg _ (by decide)]; omega, by rw [Int.fmod_eq_emod_of_nonneg _ (by decide)]; omega, rfl⟩
    rw [hnb] at FA
    clear hnb
    obtain ⟨br, hbr1, hbr2, hbr⟩ : ∃ y : Int, 0 ≤ y ∧ y ≤ 4294967295 ∧ vd.fmod 4294967296 = y := ⟨_, by rw [Int.fmod_eq_emod_of_nonneg _ (by decide)]; omega, by rw [Int.fmod_eq_emod_of_nonneg _ (by decide)]; omega, rfl⟩
    rw [hbr] at FA
    clear hbr
    generalize tsz + 1 + 1 + 1 + 1 + 1 + 1 + 1 + 1 + 1 = tcn at FA ⊢
    generalize tcn + 1 + 1 + 1 + 1 = tnb at FA ⊢
    generalize tnb + 1 + 1 + 1 + 1 = tbr at FA ⊢
    refine .step ?_
    repeat' (first | (dsimp only; walk1) | walk1)
    try dsimp only
    rename Fr _ _ _ _ => FA
    rename News _ _ _ _ => NA
    rw [show (2 : Int) ^ Int.toNat 32 = 4294967296 from rfl] at NA
    obtain ⟨p0, hp01, hp02, hp0⟩ : ∃ y : Int, 0 ≤ y ∧ y ≤ 255 ∧ vc.fmod 256 = y := ⟨_, by rw [Int.fmod_eq_emod_of_nonneg _ (by decide)]; omega, by rw [Int.fmod_eq_emod_of_nonneg _ (by decide)]; omega, rfl⟩
    rw [hp0] at NA
    clear hp0
    obtain ⟨p1, hp11, hp12, hp1⟩ : ∃ y : Int, 0 ≤ y ∧ y ≤ 4294967295 ∧ (vc.fdiv 256).fmod 4294967296 = y := ⟨_, by rw [Int.fmod_eq_emod_of_nonneg _ (by decide)]; omega, by rw [Int.fmod_eq_emod_of_nonneg _ (by decide)]; omega, rfl⟩
    rw [hp1] at NA
    clear hp1
    obtain ⟨p2, hp21, hp22, hp2⟩ : ∃ y : Int, 0 ≤ y ∧ y ≤ 65535 ∧ (vc.fdiv 7).fmod 65536 = y := ⟨_, by rw [Int.fmod_eq_emod_of_nonneg _ (by decide)]; omega, by rw [Int.fmod_eq_emod_of_nonneg _ (by decide)]; omega, rfl⟩
    rw [hp2] at NA
    clear hp2
    generalize tbr + 1 + 1 + 1 + 1 + 1 = t0 at NA ⊢
    generalize t0 + 1 + 1 + 1 + 1 + 1 + 1 = t1 at NA ⊢
    generalize t1 + 1 + 1 + 1 + 1 = t2 at NA ⊢
    obtain ⟨m0, FA⟩ := fr_gen5 (k1 := "place") (k2 := "chain_now") (k3 := "number") (k4 := "birth") (k5 := "size") FA rfl rfl rfl rfl rfl
    refine .step ?_
    repeat' (first | (dsimp only; walk1) | walk1)
    try dsimp only
    rename Fr _ _ _ _ => FA
    rename News _ _ _ _ => NA
    refine Halt.go (atLv (d := 500) (law_cell_spec ⟨X.keeps FA.keep, p, loose, mean, mg, mb, T.keeps FA.keep⟩ (vs := ws0) ⟨_, (NA (D0, W.listOf ws0.toArray 0) (by simp)).1, rfl, _, rfl⟩ hI (by omega) (by omega) (by omega) fun v7 tv7 hv7 tkv7 _ kv => ?_))
    have F2 := fr_ext FA kv
    have N2 : News s.heap L' _ _ := fun q hq => ⟨kv _ _ (NA q hq).1, (NA q hq).2⟩
    clear FA NA kv
    dsimp only at F2 N2 ⊢
    repeat' (first | (dsimp only; walk1) | walk1)
    try dsimp only
    rename IsRange _ _ _ _ _ _ _ _ => hr
    rename Fr s.heap _ _ _ => F1
    rename News s.heap _ _ _ => N1
    obtain ⟨n, hn0, hn1⟩ : ∃ n : Nat, v7.fmod (sz - 35) = (n : Int) ∧ (n : Int) < sz - 35 := by
      have h1 := Int.emod_nonneg v7 (show sz - 35 ≠ 0 by omega)
      have h2 := Int.emod_lt_of_pos v7 (show 0 < sz - 35 by omega)
      rw [Int.fmod_eq_emod_of_nonneg _ (show 0 ≤ sz - 35 by omega)]
      exact ⟨(v7 % (sz - 35)).toNat, (Int.toNat_of_nonneg h1).symm, by rw [Int.toNat_of_nonneg h1]; exact h2⟩
    rw [hn0] at hr
    refine Halt.go (range_iter (R := fun i _ y => ∃ b t, y = .int b t ∧ 0 ≤ b ∧ b < 256) (n := n) (by rfl) (by rfl) (by rfl) F1 N1 hr (small_one (by omega) (by omega) (by omega) (by omega)) (rangeSize1 n) (by rw [sizeLine_eq]; omega) ?el2 ?fin2)
    case el2 =>
      intro i t C m' s' hi' h0 F2 e2 E2
      obtain ⟨h2, tk2, rfl⟩ := e2
      obtain ⟨nw, N2, cv⟩ := cover_ex F2
      have k2 := F2.keep
      have X2 := X.keeps F1.keep
      have T2 := T.keeps F1.keep
      have hc := (N1 (L' + 1, oS) (by simp)).1
      have hd0 := (N1 (D0, W.listOf ws0.toArray 0) (by simp)).1
      have hi7 : (i : Int) < 100 := by omega
      have hi0 : 0 ≤ (i : Int) := by omega
      clear F1 N1 hr
      k_steps
      rename Fr _ C _ _ => F3
      rename News _ C _ _ => N3
      refine Halt.go (atLv (d := 500) (law_cell_spec ⟨X2.keeps F3.keep, p, loose, mean, mg, mb, T2.keeps F3.keep⟩ (vs := ws0) ⟨_, F3.keep _ _ hd0, rfl, _, rfl⟩ hI (by omega) (by omega) (by omega) fun v5 t5 h5 tk5 _ k5 => ?_))
      have F4 := F3.keeps k5
      have N4 := N3.grown k5
      clear F3 N3 k5
      dsimp only at F4 N4 ⊢
      k_steps
      rename Fr _ C _ _ => F3
      rename News _ C _ _ => N3
      refine Halt.go (atLv (d := 500) (law_cell_spec ⟨X2.keeps F3.keep, p, loose, mean, mg, mb, T2.keeps F3.keep⟩ (vs := ws0) ⟨_, F3.keep _ _ hd0, rfl, _, rfl⟩ hI (by omega) (by omega) (by omega) fun v6 t6 h6 tk6 _ k6 => ?_))
      have F4 := F3.keeps k6
      have N4 := N3.grown k6
      clear F3 N3 k6
      dsimp only at F4 N4 ⊢
      k_steps
      rename Fr _ C _ _ => F3
      rename News _ C _ _ => N3
      exact ElPost.of (s' := ⟨h2, _, _, _, _⟩) cv F3 N3 (fun _ e => e) (fun _ _ => ⟨_, _, rfl, by rw [Int.fmod_eq_emod_of_nonneg _ (by decide)]; omega, by rw [Int.fmod_eq_emod_of_nonneg _ (by decide)]; omega⟩) k2
    case fin2 =>
    rintro s₂ ⟨h2, tk2, rfl⟩
    intro D2 h3 tk3 ys k3 F3 N3 hD hl3 hR
    obtain ⟨kr, hir, hor⟩ := octs_exist ys fun y hy => by
      obtain ⟨i, hi', e⟩ := List.mem_iff_getElem.mp hy
      exact hR i y (by rw [List.getElem?_eq_getElem hi', e])
    have hkr : kr.length = n := by rw [← hir.length, hl3]
    clear hR F1 N1 hr k3 hD
    dsimp only at F3 N3 ⊢
    repeat' (first | (dsimp only; walk1) | walk1)
    try dsimp only
    rename Fr _ _ _ _ => FA
    rename News _ _ _ _ => NA
    have hn3 : kr.length = n := hkr
    have N0 : News s.heap L' _ _ := fun q hq => NA q (List.mem_cons_of_mem _ hq)
    clear NA
    obtain ⟨pl, hpl⟩ := news_head N0
    subst hpl
    rename KBa.In kr => hin
    have hrk : KBw.bInts (byteArr kr) = kr := KBa.ints_make hin
    have hrz : (byteArr kr).size = n := by rw [← KBw.ints_length, hrk, hkr]
    generalize byteArr kr = rb at hrk hrz FA
    refine .step ?_
    repeat' (first | (dsimp only; walk1) | walk1)
    try dsimp only
    rename Fr _ _ _ _ => FA
    rename News _ _ _ _ => NA
    refine Halt.go (atLv (d := 450) (log_pointer_spec ⟨X.keeps FA.keep, p, loose, mean, mg, mb, T.keeps FA.keep⟩ fun px pdx pT pS pts s0 s1 s2 s3 ka kb kc kd ke h6 tk6 hpo hpts k6 => ?_))
    dsimp only at hpo k6
    obtain ⟨b0, b1, b2, b3, b4, b5, b6, b7, b8, b9, b10, rfl⟩ := eleven hpts
    dsimp only [ptrEnts, List.zip, List.zipWith, List.map] at hpo
    have F6 := fr_ext FA k6
    have N6 := News.app (news_of FA hpo) (fun q hq => ⟨k6 _ _ (NA q hq).1, (NA q hq).2⟩)
    clear FA NA k6 hpo
    dsimp only [List.cons_append, List.nil_append] at F6 N6 ⊢
    repeat' (first | (dsimp only; walk1) | walk1)
    try dsimp only
    rename Fr _ _ _ _ => FA
    rename News _ _ _ _ => NA
    refine .cons (.stIf (.isBool (.isOr (.any ?_))))
    repeat' (first | (dsimp only; walk1) | walk1)
    try dsimp only
    rename Fr _ _ _ _ => FA
    rename News _ _ _ _ => NA
    refine Halt.go (atLv (d := 450) (room_of_spec ⟨X.keeps FA.keep, p, loose, mean, mg, mb, T.keeps FA.keep⟩ ⟨by omega, by omega⟩ fun t7 h7 tk7 k7 => ?_))
    have F7 := fr_ext FA k7
    have N7 : News s.heap L' _ _ := fun q hq => ⟨k7 _ _ (NA q hq).1, (NA q hq).2⟩
    clear FA NA k7
    dsimp only at F7 N7 ⊢
    repeat' (first | (dsimp only; walk1) | walk1)
    try dsimp only
    · rename _ ≠ _ => hx
      exact absurd rfl hx
    refine .isOr (.any ?_)
    repeat' (first | (dsimp only; walk1) | walk1)
    try dsimp only
    rename Fr _ _ _ _ => FA
    rename News _ _ _ _ => NA
    have y1 := (NA _ List.mem_cons_self).1
    have y2 := (NA _ (List.mem_cons_of_mem _ (List.mem_cons_of_mem _ (List.mem_cons_of_mem _ List.mem_cons_self)))).1
    have y3 := (NA _ (List.mem_cons_of_mem _ (List.mem_cons_of_mem _ (List.mem_cons_of_mem _ (List.mem_cons_of_mem _ (List.mem_cons_of_mem _ List.mem_cons_self)))))).1
    dsimp only at y1 y2 y3
    refine Halt.go (ne_place y2 y1 y3 (by exact Nat.le_of_ble_eq_true rfl) ?_)
    clear y1 y2 y3
    have N8 : News s.heap L' _ _ := fun q hq => NA q (List.mem_cons_of_mem _ hq)
    clear NA
    repeat' (first | (dsimp only; walk1) | walk1)
    try dsimp only
    refine .isOr (.isNot (.isCall (.callName ?_)))
    repeat' (first | (dsimp only; walk1) | walk1)
    try dsimp only
    refine .calledWith (P := fun h => (hd.heap_1 w.params).In h) rfl (keeps_K (by k_is)) (.any ?_)
    refine evalArgs_kw2 (by rfl) ?_
    repeat' (first | (dsimp only; walk1) | walk1)
    try dsimp only
    refine by_of_int (by omega) (by omega) fun t8 k8 => ?_
    repeat' (first | (dsimp only; walk1) | walk1)
    try dsimp only
    rename Fr _ _ _ _ => FA
    rename News _ _ _ _ => NA
    have e4 : (256 : Int) ^ 4 = 4294967296 := by decide
    have e3 : (256 : Int) ^ 3 = 16777216 := by decide
    have e2 : (256 : Int) ^ 2 = 65536 := by decide
    have e1 : (256 : Int) ^ 1 = 256 := by decide
    have NQ : News s.heap L' _ (ptrObjs w.params px pdx pT pS pl [b0, b1, b2, b3, b4, b5, b6, b7, b8, b9, b10] s0 s1 s2 s3 ka kb kc kd ke _ _ _ _ _ _ sz br cn p0 p1 p2) := fun q hq => NA q (List.mem_append_left [_, _, _, _] hq)
    have Lnew : s.heap.get? L' = none := Heap.get?_none_of_le FA.above
    show wpP _ _ (call (.ref 339) [.int cn _, .int nb _, .bytes (Array.replicate (sz - 35).toNat 0) _, .ref px, .int sz _] []) _ _ _
    refine atLvP (d := 320) (law_is_refused_spec (outer := [envOfC _ _ L' 344 _]) (fun q hq => (NQ q hq).1) rfl (Gd.keeps ⟨X, p, loose, mean, mg, mb, T⟩ fun q o y => hideAll_get _ (FA.keep q o y) fun z => ?_) (.cons (fun z => by cases z) rfl FA.ns (hideAll_none _ List.mem_cons_self) trivial)
      ⟨by omega, by rw [e4]; omega⟩ ⟨by omega, by rw [e3]; omega⟩ ⟨by omega, by rw [e1]; omega⟩ ⟨by omega, by rw [e4]; omega⟩ ⟨by omega, by rw [e2]; omega⟩ ⟨by omega, by rw [e4]; omega⟩ (by rw [Array.size_replicate]; omega) (by omega) (by omega) (by rw [Array.size_replicate]; omega) fun h9 tk9 k9 U9 => ?_)
    · rcases List.mem_append.mp z with z | z
      · rw [List.mem_singleton.mp z, Lnew] at y; cases y
      · rw [news_none NQ z] at y; cases y
    dsimp only at k9 U9 ⊢
    have F9 := fr_up FA k9 U9
    have N9 := news_up NA k9
    clear FA NA NQ k9 U9
    repeat' (first | (dsimp only; walk1) | walk1)
    try dsimp only
    rename Fr _ _ _ _ => FA
    rename News _ _ _ _ => NA
    refine .isOrNil ?_
    try dsimp only
    rw [if_neg Bool.false_ne_true]
    refine .nil ?_
    try dsimp only
    refine .cons (.stAssign (.callName ?_))
    repeat' (first | (dsimp only; walk1) | walk1)
    try dsimp only
    refine .calledWith (P := fun h => (hd.heap_1 w.params).In h) rfl (fun _ _ => ⟨.machine, .inr (.inl rfl), Looks.of_pure rfl⟩) (.evalArgs1 ?_)
    refine .callName ?_
    repeat' (first | (dsimp only; walk1) | walk1)
    try dsimp only
    refine .calledWith (P := fun h => (hd.heap_1 w.params).In h) rfl (keeps_K (by k_is)) (.any ?_)
    refine evalArgs_kw2 (by rfl) ?_
    repeat' (first | (dsimp only; walk1) | walk1)
    try dsimp only
    rename Fr _ _ _ _ => FA
    rename News _ _ _ _ => NA
    show wpP _ _ (call (.ref 251) [.int cn _, .int nb _, .bytes rb _, .ref px, .int sz _] []) _ _ _
    have NQ : News s.heap L' _ (ptrObjs w.params px pdx pT pS pl [b0, b1, b2, b3, b4, b5, b6, b7, b8, b9, b10] s0 s1 s2 s3 ka kb kc kd ke _ _ _ _ _ _ sz br cn p0 p1 p2) := fun q hq => NA q (List.mem_append_left [_, _, _, _] hq)
    refine atLvP (d := 350) (block_octets_spec (fun q hq => (NQ q hq).1) rfl (gd_hide (mu := ptrObjs w.params px pdx pT pS pl [b0, b1, b2, b3, b4, b5, b6, b7, b8, b9, b10] s0 s1 s2 s3 ka kb kc kd ke _ _ _ _ _ _ sz br cn p0 p1 p2) ⟨X, p, loose, mean, mg, mb, T⟩ FA NQ)
      ⟨by omega, by rw [e4]; omega⟩ ⟨by omega, by rw [e3]; omega⟩ ⟨by omega, by rw [e1]; omega⟩ ⟨by omega, by rw [e4]; omega⟩ ⟨by omega, by rw [e2]; omega⟩ ⟨by omega, by rw [e4]; omega⟩ (by omega) (by omega) (by omega) (fun z => absurd z (by omega)) fun bo to h10 tk10 _ hbo k10 => ?_)
    rw [hrk] at hbo
    dsimp only at k10 ⊢
    have F10 := fr_ext FA k10
    have N10 : News s.heap L' _ [(pl, _), (D0, W.listOf ws0.toArray 0), (L' + 1 + 1 + 1, oA), (L' + 1 + 1, oB), (L' + 1, oS)] := fun q hq => ⟨k10 _ _ (NA q (List.mem_append_right [_, _, _, _] hq)).1, (NA q (List.mem_append_right [_, _, _, _] hq)).2⟩
    clear FA NA NQ k10
    refine ⟨X.keeps F10.keep, .any ?_⟩
    generalize hBB : blockBody cn nb kr p0 p1 p2 br (sz.toNat - 16) = BB at hbo
    repeat' (first | (dsimp only; walk1) | walk1)
    try dsimp only
    have hBl : BB.length = sz.toNat - 16 := by rw [← hBB]; exact blockBody_length (by omega)
    obtain ⟨SS, hSS⟩ : ∃ SS, SS = sumInts BB := ⟨_, rfl⟩
    rw [← hSS] at hbo
    have hSl : SS.length = 16 := by rw [hSS]; exact sumInts_length BB
    refine Halt.go (list_of_bytes rfl F10 N10 (fun DO yo no ho tko hIo Fo No lo => ?_) (by rw [← KBw.ints_length, hbo, List.length_append, hSl, hBl, sizeLine_eq]; omega))
    rw [hbo] at hIo
    clear F10 N10
    k_lt lo
    dsimp only
    repeat' (first | (dsimp only; walk1) | walk1)
    try dsimp only
    rename Fr _ _ _ _ => FA
    rename News _ _ _ _ => NA
    refine' (fun ho => ?k) (fn_at (K := hd.heap_1 w.params) (f := 344) (cdv := .ref 343) (name := "law") (qual := "law") ?e)
    case e => k_is
    exact law_rest0 ho ⟨X, p, loose, mean, mg, mb, T⟩ (fr_over6 FA rfl rfl rfl rfl rfl rfl) hI hn l0 dS hsz1 hsz2 hcn1 hcn2 hnb1 hnb2 hbr1 hbr2 hp01 hp02 hp11 hp12 hp21 hp22 (by omega) hrk (hrz.trans hn3.symm) hBB hSS hSl hBl hIo (fun k hk => KBw.ints_in (b := bo) (by rw [hbo]; exact hk)) dA' (by assumption) lo NA
end
end
end Mine
-- part Fin
namespace Mine
theorem asK_is (P : Params) : adsK = (hd.heap_1 P).map (·.1) := by kernel_rfl
set_option maxHeartbeats 8000000 in
theorem said : PySem.Challenge.rw_pb0583_01.wellSaid = true := by
  rw [Fast.te9446332074065402090]
  unfold Fast.tw9446332074065402090
  repeat' (with_reducible refine look_both ?_ ?_)
  all_goals as_aux_lemma => kernel_rfl
theorem law_is {w : World} {h : Heap} {mg : Str → Option Value} (X : (hd.heap_1 w.params).In h) (g : h.Ns mainGlobals mg) : mg "law" = some (.ref 344) := by
  revert X; (have q : PySem.Challenge.rw_pb0583_01 = PySem.Challenge.rw_pb0583_01 := rfl); revert q; k_fill; intro _ X
  exact mg_of X g (by k_is)
end Mine
open Mine
theorem PySem.Challenge.cw_pb0583_01_holds : PySem.Challenge.rw_pb0583_01.Holds := by
  w_on
  refine ⟨said, ?_⟩
  refine law_holds (q := qv) (loose := ["LOG_HEAD"]) (XP := XL qv lv) (YP := fun w h => (hd.heap_1 w.params).In h) left (fun w s e => Frag.in_of (asK_is w.params) e) (fun w h h' x k => Frag.In.keeps x k) (fun s e => xl_of s (Bool.and_eq_true_iff.mp e).1) XL.keeps (by rfl) (by rfl) (by rfl) rfl (row_said said) (by decide +kernel) ⟨rfl, rfl, rfl, rfl, rfl, by decide +kernel⟩ ?hw ?call
  case hw => w_witness2
  case call =>
    intro w s₀ s₁ mg mb f G X hf args vs as hpre hlay hrd hwl hlo
    have e := law_is X G.T.g
    have T := G.T
    rw [show PySem.Challenge.rw_pb0583_01.name = ("law" : Str) from rfl, e] at hf
    cases Option.some.inj hf
    clear G hf e
    wrow_args hpre hlay hrd hwl hlo
    rename Heap.IsList _ _ _ => hL
    rename IntsAre _ _ => hI
    rename ¬ _ => hn
    refine wpP.up (A' := LvA 305 (some [])) (law_spec ⟨X, _, _, _, _, _, T⟩ hL hI (by omega) fun h' tk k => ⟨rfl, h', tk, k, rfl⟩) rfl ?_ rfl rfl ?_
    · decide
    · decide
