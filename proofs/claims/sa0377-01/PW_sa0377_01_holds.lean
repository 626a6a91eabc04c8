import PyProof.Rows.All
import Wide.All
import OpenK.AllK
import Wide.FinOn
import PySem.Challenge.RW_sa0377_01
open PySem PySem.W PyProof.Rows
set_option Elab.async false
set_option maxRecDepth 100000
set_option maxHeartbeats 8000000
namespace Mine
/- The run of the top over a tree of objects, in one piece. -/
noncomputable def ofL : List Obj → Nat → BT → BT
  | [], _, t => t
  | o :: l, n, t => ofL l (n + 1) (t.ins n o)
noncomputable def runG (f : SharedT → Thread → Option (SharedT × Thread)) (n₀ : Nat) (ann : Option Value) : Nat → SharedT → Thread → Option SharedT
  | 0, _, _ => none
  | n + 1, s, t => match through t with
    | true => some s
    | false => match stepOk n₀ ann t with
      | false => none
      | true => match f s t with
        | some (s', t') => runG f n₀ ann n s' t'
        | none => none
noncomputable def s0T (w : World) (os : OsState) : SharedT :=
  ⟨ofL (boot_heap w.params).objs.toList 0 .nil, (boot_heap w.params).objs.size, (boot_heap w.params).life, Array.mk [], boot_drawn, boot_toks, os⟩

theorem runG_spec {tb : String → Option Builtin} {p : Program} {w : World} {n₀ : Nat} {ann : Option Value} : ∀ {n : Nat} {s s' : SharedT} {t : Thread},
    runG (stepT (denote tb) p w) n₀ ann n s t = some s' → topRun tb p w n₀ ann n s.abs t = some s'.abs
  | 0, _, _, _, h => by cases h
  | n + 1, s, s', t, h => by
    unfold runG at h
    unfold topRun
    cases ht : through t with
    | true => rw [ht] at h; cases h; rfl
    | false =>
      rw [ht] at h
      cases hk : stepOk n₀ ann t with
      | false => rw [hk] at h; cases h
      | true =>
        rw [hk] at h
        cases hs : stepT (denote tb) p w s t with
        | none => rw [hs] at h; cases h
        | some r => obtain ⟨s₂, t₂⟩ := r; rw [hs] at h; simp only [stepT_spec hs]; exact runG_spec h

def chk (p : Program) (h₀ : Heap) (s : Shared) : Bool := staticsOk (importedModules p.main.body) h₀ s.heap && namesBound p s.heap && gensDone s && laidKept h₀ s.heap

/- An object of the tree, read without the list of all objects. -/
def getT (s : SharedT) (a : Addr) : Option Obj := match Nat.ble (a + 1) s.n with
  | true => alive ((s.tree.get a).getD default)
  | false => none
theorem getT_eq (s : SharedT) (a : Addr) : s.abs.heap.get? a = getT s a := by
  show (absHeap s.tree s.n s.life).get? a = _
  unfold getT
  by_cases h : a < s.n
  · rw [Nat.ble_eq_true_of_le h]
    cases g : s.tree.get a with
    | some o => exact abs_get h g
    | none =>
      unfold Heap.get?
      rw [absHeap_at, if_pos h, g]
      rfl
  · rw [abs_get_none h]
    cases q : Nat.ble (a + 1) s.n with
    | true => exact absurd (Nat.le_of_ble_eq_true q) h
    | false => rfl
theorem hook_obs {K : Params → Frag} {as : List Addr} {e : ∀ P, as = (K P).map (·.1)} (s : SharedT) : Hook.obs (kHook K as e) s.abs = as.map (getT s) := by
  show as.map s.abs.heap.get? = as.map (getT s)
  exact congrArg (as.map ·) (funext (getT_eq s))
theorem left_of {p q : Program} {loose : List Str} {Xt : Shared → Bool} {α : Type} {Yf : Shared → α} {Yt : SharedT → α} {Ya : World → α} {N m₀ M : Nat} {ann : Option Value}
    (hY : ∀ s : SharedT, Yf s.abs = Yt s) (e : opening p = plainProg p.main.scope.names) (hN : Nat.ble 600 N = true) (f : ∀ s, fenceModules? p s = some s)
    (size : ∀ w : World, ((boot_heap w.params).isNs mainGlobals, (boot_heap w.params).objs.size, (boot_heap w.params).nsMap mainGlobals "__annotations__") = (true, m₀, ann))
    (s0 : ∀ (w : World) (os : OsState), (s0T w os).abs = ⟨boot_heap w.params, Array.mk [], boot_drawn, boot_toks, os⟩) (le : Nat.ble M N = true)
    (run : ∀ (w : World) (os : OsState), (runG (stepT (denote treeTable) p w) m₀ ann M (s0T w os) (topStub p)).map (fun s => ((chk p (boot_heap w.params) s.abs, openSeen q loose (importedModules p.main.body) Xt true s.abs), Yt s)) = some ((true, openGood q loose), Ya w)) : LeftO p q loose Xt Yf Ya N true := fun w => by
  have o := boot_open e hN f w
  obtain ⟨⟨h, gs, d, k, os⟩, e1, e2⟩ := Option.map_eq_some_iff.mp o
  obtain ⟨rfl, rfl, rfl, rfl⟩ : h = boot_heap w.params ∧ gs = Array.mk [] ∧ d = boot_drawn ∧ k = boot_toks := by simpa using e2
  obtain ⟨s, r1, r2⟩ := Option.map_eq_some_iff.mp (run w os)
  obtain ⟨l12, r4⟩ := Prod.mk.inj r2
  obtain ⟨l1, l2⟩ := Prod.mk.inj l12
  obtain ⟨z1, z23⟩ := Prod.mk.inj (size w)
  obtain ⟨z2, z3⟩ := Prod.mk.inj z23
  have r := topRun_mono (N - M) _ _ _ _ (runG_spec r1)
  rw [show M + (N - M) = N by have := Nat.le_of_ble_eq_true le; omega, s0] at r
  have t : topFrom treeTable p w N ⟨boot_heap w.params, Array.mk [], boot_drawn, boot_toks, os⟩ = some s.abs := by
    unfold topFrom
    dsimp only
    rw [z1, z2, z3, r]
    show (match chk p (boot_heap w.params) s.abs with | true => _ | false => _) = _
    rw [l1]
  unfold openEnds
  rw [e1]
  show (topFrom treeTable p w N _).map _ = _
  rw [t]
  exact congrArg some (Prod.ext l2 ((hY s).trans r4))

/- The library's quick twins of the machine (proved equal in the library) stand in for it where the kernel runs the top. -/
theorem fast : stepT (denote treeTable) = PySem.W.Fast.tw10156331382660048174 (PySem.W.Fast.tw11892475500146522536 PySem.W.Fast.tw14364793385576792824) := by
  rw [← PySem.W.Fast.te10156331382660048174, ← PySem.W.Fast.te11892475500146522536, ← PySem.W.Fast.te14364793385576792824]
theorem fastSeen : @openSeen = @PySem.W.Fast.tw4187177175401517315 := PySem.W.Fast.te4187177175401517315

abbrev pw : Program := PySem.Challenge.pw_sa0377_01
/- The view keeps the law alone; every other name of the top is loose. -/
def vw : Program := view pw [145]
def lz : List Str := (pw.main.scope.names.map (·.1)).filter fun n => !(n == "law")
abbrev rwp : Program := PySem.Challenge.rw_sa0377_01.row.prog
/- The looks at the law, each apart: less memory than all in one. -/
theorem look1 : namesResolve rwp = true := by
  rw [PySem.W.Fast.te8377067652309620493]
  kernel_rfl
theorem look2 : noRoadLSs { strict := !(importedModules rwp.main.body).all cThrough.contains, foot := none, bare := (["vars", "dir", "locals"] : List Str).filter (readsOut rwp rwp.main.body) } rwp.main.body = true := by kernel_rfl
theorem look3 : (namesMeet rwp rwp.main.body fun _ n => attrL n) = true := by
  rw [PySem.W.Fast.te17119622794617984870, PySem.W.Fast.te17868728402115742887]
  kernel_rfl
theorem look4 : (namesMeet PySem.Challenge.rw_sa0377_01.prog PySem.Challenge.rw_sa0377_01.above fun _ n => !PySem.Challenge.rw_sa0377_01.own.contains n) = true := by
  rw [PySem.W.Fast.te17119622794617984870]
  kernel_rfl
theorem said : PySem.W.OpenLaw.wellSaid PySem.Challenge.rw_sa0377_01 = true := by
  unfold OpenLaw.wellSaid OpenRow.wellSaid OpenRow.partSaid looksOpen
  repeat (with_reducible refine look_both ?_ ?_)
  all_goals first
    | with_reducible exact look1
    | with_reducible exact look2
    | with_reducible exact look3
    | with_reducible exact look4
    | kernel_rfl

local macro_rules | `(tactic| o_law) => `(tactic| refine holds_law Mine.said fun said => ?_)
local macro_rules | `(tactic| o_head $H) => `(tactic| (
  refine holds_open (q := Mine.vw) (loose := Mine.lz) (Xt := fun s => xlAt Mine.vw [] s && recOk [] s) (XP := XL Mine.vw []) (Yf := Hook.obs $H) (Ya := Hook.val $H) (YP := Hook.says $H) (N := 4000) ?hl (Hook.of $H) (Hook.keeps $H)
    (fun s e => xl_of s (Bool.and_eq_true_iff.mp e).1) XL.keeps (by rfl) (by rfl) (by rfl) (fun s e => recFacts_of (Bool.and_eq_true_iff.mp e).2) (by rfl) (by assumption) (by decide +kernel) ⟨rfl, rfl, rfl, rfl, rfl, by decide +kernel⟩ ?hw ?hc
  (case hl => exact left_of (m₀ := 11) (ann := some (.ref 6)) (M := 4000) hook_obs (by kernel_rfl) (by decide) (fun _ => rfl) (fun _ => by kernel_rfl) (fun _ _ => by kernel_rfl) (by decide) (fun w os => by rw [fast, fastSeen]; kernel_rfl))))
open_top hd for PySem.Challenge.rw_sa0377_01
end Mine
namespace Mine
abbrev bits (n : Int) : Nat := Builtin.Int.intBits n
theorem pw_pos (k : Nat) : (0 : Int) < 2 ^ k := kbt_pos k
theorem natAbs_p2 (k : Nat) : ((2 : Int) ^ k).natAbs = 2 ^ k := by rw [← kbt_cast]; rfl
theorem bits_le {n : Int} (h0 : 0 ≤ n) {m : Nat} : bits n ≤ m ↔ n < 2 ^ m := by
  rw [show bits n ≤ m ↔ n.natAbs < 2 ^ m from intBits_le_iff, ← kbt_cast]
  omega
theorem fdiv_p2 (n : Int) (k : Nat) : n.fdiv (2 ^ k) = n / 2 ^ k := Int.fdiv_eq_ediv_of_nonneg _ (Int.le_of_lt (pw_pos k))
theorem fmod_p2 (n : Int) (k : Nat) : n.fmod (2 ^ k) = n % 2 ^ k := Int.fmod_eq_emod_of_nonneg _ (Int.le_of_lt (pw_pos k))
theorem fdiv_nonneg {n : Int} (h0 : 0 ≤ n) (k : Nat) : 0 ≤ n.fdiv (2 ^ k) := by rw [fdiv_p2]; exact Int.ediv_nonneg h0 (Int.le_of_lt (pw_pos k))
theorem fdiv_lt {n : Int} (k m : Nat) : n.fdiv (2 ^ k) < 2 ^ m ↔ n < 2 ^ (m + k) := by
  rw [fdiv_p2, Int.ediv_lt_iff_lt_mul (pw_pos k), ← Int.pow_add]
theorem bits_fdiv {n : Int} (h0 : 0 ≤ n) (k : Nat) (h : 2 ^ k ≤ n) : bits (n.fdiv (2 ^ k)) + k = bits n := by
  have key : ∀ m, bits (n.fdiv (2 ^ k)) ≤ m ↔ bits n ≤ m + k := fun m => by
    rw [bits_le (fdiv_nonneg h0 k), bits_le h0, fdiv_lt]
  have h1 := (key _).mp (Nat.le_refl _)
  have h2 : ¬ bits n ≤ k := by rw [bits_le h0]; omega
  have h3 := (key (bits n - k)).mpr (by omega)
  omega
theorem bits_small {n : Int} (h0 : 0 ≤ n) (h : n < 2) : (bits n : Int) = n := by
  have : n = 0 ∨ n = 1 := by omega
  rcases this with rfl | rfl <;> rfl
noncomputable section
def isNan (a : Int) : Bool := decide (9218868437227405312 < Builtin.bitAnd a 9223372036854775807)
def isInf (a : Int) : Bool := Builtin.bitAnd a 9223372036854775807 == 9218868437227405312
def isFin (a : Int) : Bool := decide (Builtin.bitAnd a 9223372036854775807 < 9218868437227405312)
def isZero (a : Int) : Bool := Builtin.bitAnd a 9223372036854775807 == 0
def signedF (sg b : Int) : Int := Builtin.bitOr (Builtin.bitAnd b 9223372036854775807) (sg * 9223372036854775808)
def packF (sg e f : Int) : Int := Builtin.bitOr (Builtin.bitOr (sg * 9223372036854775808) (e * 4503599627370496)) f
def negF (a : Int) : Int := if isNan a = true then a else Builtin.bitXor a 9223372036854775808
def partS (a : Int) : Int := a.fdiv 9223372036854775808
def partE (a : Int) : Int := Builtin.bitAnd (a.fdiv 4503599627370496) 2047
def partM (a : Int) : Int := if partE a = 0 then Builtin.bitAnd a 4503599627370495 else Builtin.bitOr (Builtin.bitAnd a 4503599627370495) 4503599627370496
def partP (a : Int) : Int := if partE a = 0 then -1074 else partE a - 1075
def qT (top power : Int) : Int := if 0 ≤ power then top else top * 2 ^ (-power).toNat
def qB (bottom power : Int) : Int := if 0 ≤ power then bottom * 2 ^ power.toNat else bottom
def rrP (top bottom : Int) : Int := if (-1074 : Int) > (bits top : Int) - bits bottom - 53 then -1074 else (bits top : Int) - bits bottom - 53
def rrQ (top bottom : Int) : Int := if 9007199254740992 ≤ (qT top (rrP top bottom)).fdiv (qB bottom (rrP top bottom)) then rrP top bottom + 1 else rrP top bottom
def upF (a r u : Int) : Int := if u < 2 * r ∨ (2 * r = u ∧ a.fmod 2 = 1) then a + 1 else a
def asmF (sg whole power : Int) : Int :=
  if whole = 9007199254740992 then (if 2047 ≤ power + 1 + 1075 then signedF sg 9218868437227405312 else packF sg (power + 1 + 1075) 0)
  else if whole < 4503599627370496 then Builtin.bitOr (sg * 9223372036854775808) whole
  else if 2047 ≤ power + 1075 then signedF sg 9218868437227405312 else packF sg (power + 1075) (whole - 4503599627370496)
def rrF (sg top bottom : Int) : Int := if top = 0 then sg * 9223372036854775808 else
  asmF sg (upF ((qT top (rrQ top bottom)).fdiv (qB bottom (rrQ top bottom))) ((qT top (rrQ top bottom)).fmod (qB bottom (rrQ top bottom))) (qB bottom (rrQ top bottom))) (rrQ top bottom)
def rsF (sg m p : Int) : Int := if m = 0 ∨ (bits m : Int) + p ≤ -1075 then sg * 9223372036854775808 else if 1024 < (bits m : Int) + p then signedF sg 9218868437227405312 else if 0 ≤ p then rrF sg (m * 2 ^ p.toNat) 1 else rrF sg m (1 * 2 ^ (-p).toNat)
def absI (n : Int) : Int := if n < 0 then -n else n
def fromF (n : Int) : Int := rrF (if n < 0 then 1 else 0) (absI n) 1
def sideF (s m p st : Int) : Int := if s = 1 then -(m * 2 ^ (p - st).toNat) else m * 2 ^ (p - st).toNat
def stepF (p q : Int) : Int := if q < p then q else p
def totF (a b : Int) : Int := sideF (partS a) (partM a) (partP a) (stepF (partP a) (partP b)) + sideF (partS b) (partM b) (partP b) (stepF (partP a) (partP b))
def addF (a b : Int) : Int := if isNan a = true ∨ isNan b = true then 9221120237041090560 else if isInf a = true then (if isInf b = true ∧ a ≠ b then 9221120237041090560 else a) else if isInf b = true then b
  else if isZero a = true ∧ isZero b = true then Builtin.bitAnd a b else rsF (if totF a b < 0 then 1 else 0) (absI (totF a b)) (stepF (partP a) (partP b))
def subF (a b : Int) : Int := addF a (negF b)
def mulF (a b : Int) : Int := if isNan a = true ∨ isNan b = true then 9221120237041090560 else if isInf a = true ∨ isInf b = true then (if isZero a = true ∨ isZero b = true then 9221120237041090560 else signedF (Builtin.bitXor (partS a) (partS b)) 9218868437227405312)
  else rsF (Builtin.bitXor (partS a) (partS b)) (partM a * partM b) (partP a + partP b)
def toF (a : Int) : Int := if 0 ≤ partP a then (if partS a = 1 then -(partM a * 2 ^ (partP a).toNat) else partM a * 2 ^ (partP a).toNat) else (if partS a = 1 then -(partM a).fdiv (2 ^ (-partP a).toNat) else (partM a).fdiv (2 ^ (-partP a).toNat))
def u32F (a : Int) : Int := if isFin a = true then (toF a).fmod 4294967296 else 0
def i32F (a : Int) : Int := if 2147483648 ≤ u32F a then u32F a - 4294967296 else u32F a
end
/- The plain law: what the functions give, in plain numbers. -/
theorem q52 : (2 : Int) ^ 52 = 4503599627370496 := by decide
theorem q53 : (2 : Int) ^ 53 = 9007199254740992 := by decide
theorem q63 : (2 : Int) ^ 63 = 9223372036854775808 := by decide
theorem m63 (x : Int) : Builtin.bitAnd x 9223372036854775807 = x % 9223372036854775808 := by
  have h := kbt_mask x 63
  rw [q63] at h
  exact h
theorem m52 (x : Int) : Builtin.bitAnd x 4503599627370495 = x % 4503599627370496 := by
  have h := kbt_mask x 52
  rw [q52] at h
  exact h
theorem m11 (x : Int) : Builtin.bitAnd x 2047 = x % 2048 := by
  have h := kbt_mask x 11
  rw [show (2 : Int) ^ 11 = 2048 by decide] at h
  exact h
theorem apart (a : Int) : ∀ (k : Nat) (f : Int), 0 ≤ f → f < 2 ^ k → Builtin.bitAnd (a * 2 ^ k) f = 0
  | 0, f, h0, h1 => by
    have : f = 0 := by rw [Int.pow_zero] at h1; omega
    rw [this, bitAnd_zero]
  | k + 1, f, h0, h1 => by
    rw [Int.pow_succ] at h1
    have e : a * 2 ^ (k + 1) = 2 * (a * 2 ^ k) := by rw [Int.pow_succ, ← Int.mul_assoc, Int.mul_comm]
    rw [kbt_halves, e, show 2 * (a * 2 ^ k) / 2 = a * 2 ^ k by omega, apart a k (f / 2) (by omega) (by omega), if_neg (by omega)]
    rfl
theorem join (a : Int) (k : Nat) (f : Int) (h0 : 0 ≤ f) (h1 : f < 2 ^ k) : Builtin.bitOr (a * 2 ^ k) f = a * 2 ^ k + f := by
  rw [bitOr_and, apart a k f h0 h1, Int.sub_zero]
theorem pack_eq {s e f : Int} (h0 : 0 ≤ e) (h1 : e < 2048) (h2 : 0 ≤ f) (h3 : f < 4503599627370496) : packF s e f = s * 9223372036854775808 + e * 4503599627370496 + f := by
  unfold packF
  have j1 := join s 63 (e * 4503599627370496) (by omega) (by rw [q63]; omega)
  rw [q63] at j1
  have j2 := join (s * 2048 + e) 52 f h2 (by rw [q52]; omega)
  rw [q52] at j2
  rw [j1, show s * 9223372036854775808 + e * 4503599627370496 = (s * 2048 + e) * 4503599627370496 by omega, j2]
theorem xor63 {x : Int} (h0 : 0 ≤ x) (h1 : x < 18446744073709551616) : Builtin.bitXor x 9223372036854775808 = if x < 9223372036854775808 then x + 9223372036854775808 else x - 9223372036854775808 := by
  have h := kbt_bit x 63
  rw [q63] at h
  rw [bitXor_and, h]
  split <;> omega
theorem neg_val {x : Int} (h0 : 0 ≤ x) (h1 : x < 18446744073709551616) (h : isNan x = false) : negF x = if x < 9223372036854775808 then x + 9223372036854775808 else x - 9223372036854775808 := by
  unfold negF
  rw [h, if_neg (by decide), xor63 h0 h1]
theorem nan_iff (x : Int) : isNan x = true ↔ 9218868437227405312 < x % 9223372036854775808 := by
  unfold isNan
  rw [m63]
  exact decide_eq_true_iff
theorem nan_no {x : Int} (h : x % 9223372036854775808 ≤ 9218868437227405312) : isNan x = false := by
  rw [← Bool.not_eq_true, nan_iff]
  omega
theorem neg_rng {x : Int} (h0 : 0 ≤ x) (h1 : x < 18446744073709551616) : 0 ≤ negF x ∧ negF x < 18446744073709551616 := by
  by_cases h : isNan x = true
  · unfold negF
    rw [if_pos h]
    exact ⟨h0, h1⟩
  · rw [neg_val h0 h1 (by simpa using h)]
    split <;> omega
theorem neg_neg' {x : Int} (h0 : 0 ≤ x) (h1 : x < 18446744073709551616) : negF (negF x) = x := by
  by_cases h : isNan x = true
  · have e : negF x = x := if_pos h
    rw [e, e]
  · have h' : isNan x = false := by simpa using h
    have hn := h
    rw [nan_iff] at hn
    have e := neg_val h0 h1 h'
    have r := neg_rng h0 h1
    have hh : isNan (negF x) = false := nan_no (by rw [e]; split <;> omega)
    rw [neg_val r.1 r.2 hh, e]
    split <;> split <;> omega
theorem neg_ne {x : Int} (h0 : 0 ≤ x) (h1 : x < 18446744073709551616) (h : x % 9223372036854775808 = 0) : negF x ≠ x := by
  rw [neg_val h0 h1 (nan_no (by omega))]
  split <;> omega

theorem bits_shift {K : Int} (h : 1 ≤ K) (j : Nat) : bits (K * 2 ^ j) = bits K + j := by
  have hp := pw_pos j
  have h1 : (2 : Int) ^ j ≤ K * 2 ^ j := by
    have := Int.mul_le_mul_of_nonneg_right h (Int.le_of_lt hp)
    rwa [Int.one_mul] at this
  have := bits_fdiv (Int.le_trans (Int.le_of_lt hp) h1) j h1
  rw [kbt_q1] at this
  omega
theorem bits_p2 (j : Nat) : bits ((2 : Int) ^ j) = j + 1 := by
  have := bits_shift (K := 1) (by decide) j
  rw [Int.one_mul, show bits 1 = 1 from by decide] at this
  omega
/- An int from 1 to 2 ** 53 - 1: its width and its mantissa. -/
structure Mid (K : Int) (w : Nat) (G : Int) : Prop where
  hw : bits K = w
  w1 : 1 ≤ w
  w2 : w ≤ 53
  hG : G = K * 2 ^ (53 - w)
  g1 : 4503599627370496 ≤ G
  g2 : G < 9007199254740992
theorem mid {K : Int} (h1 : 1 ≤ K) (h2 : K < 9007199254740992) : Mid K (bits K) (K * 2 ^ (53 - bits K)) := by
  have h0 : 0 ≤ K := by omega
  have b1 : 1 ≤ bits K := by
    have := (bits_le h0 (m := 0)).mp
    rw [Int.pow_zero] at this
    omega
  have b2 : bits K ≤ 53 := (bits_le h0).mpr (by rw [q53]; exact h2)
  have hp := bits_shift h1 (53 - bits K)
  rw [show bits K + (53 - bits K) = 53 by omega] at hp
  have h3 : 0 ≤ K * 2 ^ (53 - bits K) := Int.mul_nonneg h0 (Int.le_of_lt (pw_pos _))
  have g2 := (bits_le h3 (m := 53)).mp (by omega)
  have g1 := (not_congr (bits_le h3 (m := 52))).mp (by omega)
  rw [q53] at g2
  rw [q52] at g1
  exact ⟨rfl, b1, b2, rfl, by omega, g2⟩
/- The double of an int from 1 to 2 ** 53 - 1 under a sign. -/
def enc (s K : Int) : Int := s * 9223372036854775808 + ((bits K : Int) + 1021) * 4503599627370496 + K * 2 ^ (53 - bits K)
theorem rr_core {s K : Int} (j : Nat) (h1 : 1 ≤ K) (h2 : K < 9007199254740992) : rrF s (K * 2 ^ j) (2 ^ j) = enc s K := by
  obtain ⟨w, hw⟩ : ∃ w, bits K = w := ⟨_, rfl⟩
  have M := mid h1 h2
  rw [hw] at M
  unfold enc
  rw [hw]
  obtain ⟨G, hG⟩ : ∃ G, G = K * 2 ^ (53 - w) := ⟨_, rfl⟩
  rw [← hG] at M ⊢
  obtain ⟨-, w1, w2, -, g1, g2⟩ := M
  have hp := pw_pos j
  have ht : K * 2 ^ j ≠ 0 := Int.ne_of_gt (Int.mul_pos (by omega) hp)
  have hP : rrP (K * 2 ^ j) (2 ^ j) = (w : Int) - 54 := by
    unfold rrP
    rw [bits_shift h1, bits_p2, hw, if_neg (by omega)]
    omega
  have hT : qT (K * 2 ^ j) ((w : Int) - 54) = (2 * G) * 2 ^ j := by
    unfold qT
    rw [if_neg (by omega), show (-((w : Int) - 54)).toNat = (53 - w) + 1 by omega, Int.pow_succ, hG, Int.mul_right_comm, ← Int.mul_assoc, Int.mul_comm (K * 2 ^ (53 - w)) 2]
  have hB : qB (2 ^ j) ((w : Int) - 54) = 2 ^ j := by
    unfold qB
    rw [if_neg (by omega)]
  have hQ : rrQ (K * 2 ^ j) (2 ^ j) = (w : Int) - 53 := by
    unfold rrQ
    rw [hP, hT, hB, kbt_q1, if_pos (by omega)]
    omega
  have hT' : qT (K * 2 ^ j) ((w : Int) - 53) = G * 2 ^ j := by
    unfold qT
    by_cases h : 0 ≤ (w : Int) - 53
    · rw [if_pos h, hG, show 53 - w = 0 by omega, Int.pow_zero, Int.mul_one]
    · rw [if_neg h, show (-((w : Int) - 53)).toNat = 53 - w by omega, hG, Int.mul_right_comm]
  have hB' : qB (2 ^ j) ((w : Int) - 53) = 2 ^ j := by
    unfold qB
    by_cases h : 0 ≤ (w : Int) - 53
    · rw [if_pos h, show ((w : Int) - 53).toNat = 0 by omega, Int.pow_zero, Int.mul_one]
    · rw [if_neg h]
  have hU : upF G 0 (2 ^ j) = G := if_neg (by omega)
  unfold rrF
  rw [if_neg ht, hQ, hT', hB', kbt_q1, kbt_r1, hU]
  unfold asmF
  rw [if_neg (by omega), if_neg (by omega), if_neg (by omega), pack_eq (by omega) (by omega) (by omega) (by omega)]
  omega
theorem rs_core {s K : Int} (j : Nat) (h1 : 1 ≤ K) (h2 : K < 9007199254740992) : rsF s (K * 2 ^ j) (-(j : Int)) = enc s K := by
  have M := mid h1 h2
  have hp := pw_pos j
  have ht : K * 2 ^ j ≠ 0 := Int.ne_of_gt (Int.mul_pos (by omega) hp)
  have hb := bits_shift h1 j
  have w1 := M.w1
  have w2 := M.w2
  unfold rsF
  rw [if_neg (fun h => h.elim ht (by omega)), if_neg (by omega)]
  by_cases h : (0 : Int) ≤ -(j : Int)
  · have hj : j = 0 := by omega
    subst hj
    have r := rr_core (s := s) 0 h1 h2
    rw [Int.pow_zero, Int.mul_one] at r
    rw [if_pos h, show (-((0 : Nat) : Int)).toNat = 0 from rfl, Int.pow_zero, Int.mul_one, Int.mul_one]
    exact r
  · rw [if_neg h, ← rr_core j h1 h2, Int.one_mul, show (-(-(j : Int))).toNat = j by omega]
def sgn (n : Int) : Int := if n < 0 then 1 else 0
theorem sgn01 (n : Int) : sgn n = 0 ∨ sgn n = 1 := by unfold sgn; split <;> omega
theorem from_enc {n : Int} (h0 : n ≠ 0) (h1 : absI n < 9007199254740992) : fromF n = enc (sgn n) (absI n) := by
  have h2 : 1 ≤ absI n := by unfold absI at *; split <;> omega
  have := rr_core (s := sgn n) 0 h2 h1
  rw [Int.pow_zero, Int.mul_one] at this
  exact this
theorem from_0 : fromF 0 = 0 := by decide +kernel
structure Enc (x s K : Int) (w : Nat) (G : Int) : Prop extends Mid K w G where
  pS : partS x = s
  pE : partE x = w + 1022
  pM : partM x = G
  pP : partP x = (w : Int) - 53
  low : x % 9223372036854775808 = ((w : Int) + 1021) * 4503599627370496 + G
  val : x = s * 9223372036854775808 + ((w : Int) + 1021) * 4503599627370496 + G
theorem enc_is {s K : Int} (hs : s = 0 ∨ s = 1) (h1 : 1 ≤ K) (h2 : K < 9007199254740992) : Enc (enc s K) s K (bits K) (K * 2 ^ (53 - bits K)) := by
  have M := mid h1 h2
  obtain ⟨x, hx⟩ : ∃ x, enc s K = x := ⟨_, rfl⟩
  rw [hx]
  have hv : x = s * 9223372036854775808 + ((bits K : Int) + 1021) * 4503599627370496 + K * 2 ^ (53 - bits K) := hx.symm
  clear hx
  generalize K * 2 ^ (53 - bits K) = G at M hv ⊢
  generalize bits K = w at M hv ⊢
  obtain ⟨a1, w1, w2, a2, g1, g2⟩ := M
  have pE : partE x = w + 1022 := by
    unfold partE
    rw [m11, Int.fdiv_eq_ediv_of_nonneg _ (by decide)]
    omega
  refine ⟨⟨a1, w1, w2, a2, g1, g2⟩, ?_, pE, ?_, ?_, by omega, hv⟩
  · unfold partS
    rw [Int.fdiv_eq_ediv_of_nonneg _ (by decide)]
    omega
  · unfold partM
    rw [pE, if_neg (by omega), m52]
    have j := join 1 52 (x % 4503599627370496) (by omega) (by rw [q52]; omega)
    rw [q52, Int.one_mul] at j
    rw [bitOr_comm, j]
    omega
  · unfold partP
    rw [pE, if_neg (by omega)]
    omega
/- A double that stands for the int v, on the way through a sum. -/
structure Den (x v : Int) : Prop where
  nan : isNan x = false
  inf : isInf x = false
  zero : isZero x = true ↔ v = 0
  p1 : -1074 ≤ partP x
  p2 : partP x ≤ 0
  side : ∀ st, -1074 ≤ st → st ≤ partP x → sideF (partS x) (partM x) (partP x) st = v * 2 ^ (-st).toNat
theorem inf_no {x : Int} (h : x % 9223372036854775808 < 9218868437227405312) : isInf x = false := by
  unfold isInf
  rw [m63, beq_eq_false_iff_ne]
  omega
theorem zero_iff (x : Int) : isZero x = true ↔ x % 9223372036854775808 = 0 := by
  unfold isZero
  rw [m63, beq_iff_eq]
theorem fin_yes {x : Int} (h : x % 9223372036854775808 < 9218868437227405312) : isFin x = true := by
  unfold isFin
  rw [m63]
  exact decide_eq_true h
theorem enc_den {x s K : Int} {w : Nat} {G : Int} (e : Enc x s K w G) (hs : s = 0 ∨ s = 1) (h1 : 1 ≤ K) : Den x (if s = 1 then -K else K) := by
  obtain ⟨⟨a1, w1, w2, hG, g1, g2⟩, pS, pE, pM, pP, low, val⟩ := e
  refine ⟨nan_no (by omega), inf_no (by omega), ?_, by omega, by omega, fun st l1 l2 => ?_⟩
  · rw [zero_iff]
    split <;> omega
  · have k : G * 2 ^ ((w : Int) - 53 - st).toNat = K * 2 ^ (-st).toNat := by
      rw [hG, Int.mul_assoc, ← Int.pow_add]
      congr 2
      omega
    rw [pS, pM, pP]
    unfold sideF
    split
    · rw [k, Int.neg_mul]
    · exact k
theorem zero_den : Den 0 0 := ⟨by decide +kernel, by decide +kernel, by decide +kernel, by decide +kernel, by decide +kernel, fun st _ _ => by
  rw [show partM 0 = 0 by decide +kernel, show partS 0 = 0 by decide +kernel]
  unfold sideF
  rw [if_neg (by decide), Int.zero_mul, Int.zero_mul]⟩
theorem nzero_den : Den 9223372036854775808 0 := ⟨by decide +kernel, by decide +kernel, by decide +kernel, by decide +kernel, by decide +kernel, fun st _ _ => by
  rw [show partM 9223372036854775808 = 0 by decide +kernel, show partS 9223372036854775808 = 1 by decide +kernel]
  unfold sideF
  rw [if_pos rfl, Int.zero_mul, Int.zero_mul]; rfl⟩
theorem from_is {n : Int} (h0 : n ≠ 0) (h1 : absI n < 9007199254740992) : Enc (fromF n) (sgn n) (absI n) (bits (absI n)) (absI n * 2 ^ (53 - bits (absI n))) := by
  rw [from_enc h0 h1]
  exact enc_is (sgn01 n) (by unfold absI at *; split <;> omega) h1
theorem from_den {n : Int} (h1 : absI n < 9007199254740992) : Den (fromF n) n := by
  by_cases h0 : n = 0
  · rw [h0, from_0]
    exact zero_den
  · have := enc_den (from_is h0 h1) (sgn01 n) (by unfold absI at *; split <;> omega)
    rwa [show (if sgn n = 1 then -absI n else absI n) = n by unfold sgn absI; split <;> split <;> omega] at this
theorem absI_mul (n : Int) (k : Nat) : absI (n * 2 ^ k) = absI n * 2 ^ k := by
  have hp := pw_pos k
  unfold absI
  by_cases h : n < 0
  · rw [if_pos h, if_pos (Int.mul_neg_of_neg_of_pos h hp), Int.neg_mul]
  · rw [if_neg h, if_neg (by have := Int.mul_nonneg (Int.not_lt.mp h) (Int.le_of_lt hp); omega)]
theorem sgn_mul (n : Int) (k : Nat) : sgn (n * 2 ^ k) = sgn n := by
  have hp := pw_pos k
  unfold sgn
  by_cases h : n < 0
  · rw [if_pos h, if_pos (Int.mul_neg_of_neg_of_pos h hp)]
  · rw [if_neg h, if_neg (by have := Int.mul_nonneg (Int.not_lt.mp h) (Int.le_of_lt hp); omega)]
theorem add_den {x y v u : Int} (X : Den x v) (Y : Den y u) (h : ¬ (v = 0 ∧ u = 0)) (hr : absI (v + u) < 9007199254740992) : addF x y = fromF (v + u) := by
  have st : stepF (partP x) (partP y) ≤ partP x ∧ stepF (partP x) (partP y) ≤ partP y ∧ -1074 ≤ stepF (partP x) (partP y) := by
    have := X.p1
    have := Y.p1
    unfold stepF
    split <;> omega
  have tot : totF x y = (v + u) * 2 ^ (-stepF (partP x) (partP y)).toNat := by
    unfold totF
    rw [X.side _ st.2.2 st.1, Y.side _ st.2.2 st.2.1, Int.add_mul]
  have p2 := X.p2
  unfold addF
  rw [if_neg (by rw [X.nan, Y.nan]; decide), if_neg (by rw [X.inf]; decide), if_neg (by rw [Y.inf]; decide), if_neg (by rw [X.zero, Y.zero]; exact h)]
  generalize stepF (partP x) (partP y) = p at st tot ⊢
  obtain ⟨j, hj⟩ : ∃ j : Nat, p = -(j : Int) := ⟨(-p).toNat, by omega⟩
  rw [show (-p).toNat = j by omega] at tot
  rw [tot]
  show rsF (sgn _) _ _ = _
  rw [sgn_mul, absI_mul, hj]
  by_cases hz : v + u = 0
  · rw [hz, from_0]
    unfold rsF
    rw [if_pos (.inl (by rw [show absI 0 = 0 by rfl, Int.zero_mul]))]
    rfl
  · rw [rs_core j (by unfold absI at *; split <;> omega) hr, from_enc hz hr]
theorem add_from {a b : Int} (ha : absI a < 9007199254740992) (hb : absI b < 9007199254740992) (hr : absI (a + b) < 9007199254740992) : addF (fromF a) (fromF b) = fromF (a + b) := by
  by_cases h : a = 0 ∧ b = 0
  · obtain ⟨rfl, rfl⟩ := h
    decide +kernel
  · exact add_den (from_den ha) (from_den hb) h hr
theorem add_nzero {a : Int} (ha : absI a < 9007199254740992) : addF (fromF a) 9223372036854775808 = fromF a := by
  by_cases h : a = 0
  · rw [h]
    decide +kernel
  · have := add_den (from_den ha) nzero_den (fun x => h x.1) (by rwa [Int.add_zero])
    rwa [Int.add_zero] at this
theorem from_rng {n : Int} (h1 : absI n < 9007199254740992) : 0 ≤ fromF n ∧ fromF n < 18446744073709551616 := by
  by_cases h0 : n = 0
  · rw [h0, from_0]
    decide
  · obtain ⟨⟨a1, w1, w2, hG, g1, g2⟩, pS, pE, pM, pP, low, val⟩ := from_is h0 h1
    have := sgn01 n
    omega
theorem neg_from {n : Int} (h0 : n ≠ 0) (h1 : absI n < 9007199254740992) : negF (fromF n) = fromF (-n) := by
  have e : absI (-n) = absI n := by unfold absI; split <;> split <;> omega
  have r := from_rng h1
  have A := from_is h0 h1
  have B := from_is (n := -n) (by omega) (by rwa [e])
  rw [e] at B
  rw [neg_val r.1 r.2 (from_den h1).nan]
  have v1 := A.val
  have v2 := B.val
  have g1 := A.g1
  have g2 := A.g2
  have w2 := A.w2
  have s : sgn n + sgn (-n) = 1 := by unfold sgn; split <;> split <;> omega
  have := sgn01 n
  split <;> omega
theorem one_from : (4607182418800017408 : Int) = fromF 1 := by decide +kernel
theorem mone_from : negF 4607182418800017408 = fromF (-1) := by decide +kernel
theorem mul_one' {n : Int} (h1 : absI n < 9007199254740992) : mulF (fromF n) 4607182418800017408 = fromF n := by
  by_cases h0 : n = 0
  · rw [h0]
    decide +kernel
  · have D := from_den h1
    have E := from_is h0 h1
    have k1 : 1 ≤ absI n := by unfold absI at *; split <;> omega
    unfold mulF
    rw [if_neg (by rw [D.nan]; decide +kernel), if_neg (by rw [D.inf]; decide +kernel), E.pS, E.pM, E.pP, show partS 4607182418800017408 = 0 by decide +kernel, show partM 4607182418800017408 = 2 ^ 52 by decide +kernel, show partP 4607182418800017408 = -52 by decide +kernel, bitXor_zero, Int.mul_assoc, ← Int.pow_add,
      show ((bits (absI n) : Nat) : Int) - 53 + -52 = -((53 - bits (absI n) + 52 : Nat) : Int) by have := E.w2; omega, rs_core _ k1 h1, from_enc h0 h1]
theorem i32_from {k : Int} (h0 : -2147483648 ≤ k) (h1 : k ≤ 2147483647) : i32F (fromF k) = k := by
  by_cases hz : k = 0
  · rw [hz]
    decide +kernel
  · have ha : absI k < 9007199254740992 := by unfold absI; split <;> omega
    have E := from_is hz ha
    have low := E.low
    have g1 := E.g1
    have g2 := E.g2
    have w2 := E.w2
    have wb : bits (absI k) ≤ 32 := (bits_le (by unfold absI; split <;> omega)).mpr (by rw [show (2 : Int) ^ 32 = 4294967296 by decide]; unfold absI; split <;> omega)
    have t : toF (fromF k) = k := by
      unfold toF
      rw [E.pS, E.pM, E.pP, if_neg (by omega), show (-(((bits (absI k) : Nat) : Int) - 53)).toNat = 53 - bits (absI k) by omega, kbt_q1]
      unfold sgn absI
      split <;> split <;> omega
    have u : u32F (fromF k) = k % 4294967296 := by
      unfold u32F
      rw [if_pos (fin_yes (by omega)), t, Int.fmod_eq_emod_of_nonneg _ (by decide)]
    unfold i32F
    rw [u]
    split <;> omega
abbrev Led := List (Addr × Obj)
abbrev Names := Str → Option Value
/- What a call of the def at f gives, from any frame of a def: the value told, the ledger as it was. -/
def Ct (w : World) (lv : Nat) (f : Addr) (vs : List Value) (R : Tok → Value) : Prop :=
  ∀ (p : Program) (loose : List Str) (mean : ExcName → Option Value) (mg mb : Names) (dp un : Nat) (gd : Option (List Code)) (cn : Str) (cs : Scope) (a : Addr) (ccd : Value) (cl : List (Str × Addr)) (outer : List Env) (A₀ : Around) (base h₀ : Heap) (L : Addr) (m : Names) (news : Led) (s : Shared) (Q E : Value → Shared → Prop),
    Below A₀ base outer h₀ → Fr h₀ L s.heap m → (hd.heap_1 w.params).In h₀ → News h₀ L s.heap news → Top p loose mean mg mb h₀ → cs.kind = .function → dp + lv < recursionLimit → un + 8 * lv < cLine →
    (∀ (t : Tok) (h' : Heap) (tk' : Nat), Fr h₀ L h' m → News h₀ L h' news → Q (R t) { s with heap := h', toks := tk' }) →
    wpAny (model pw w) (ktrTop dp un gd cn cs L a ccd cl outer) (call (.ref f) vs) Q E s
theorem Ct.use {w : World} {lv : Nat} {f : Addr} {vs : List Value} {R : Tok → Value} (C : Ct w lv f vs R) {p : Program} {loose : List Str} {mean : ExcName → Option Value} {mg mb : Names} {dp un : Nat} {gd : Option (List Code)} {cn : Str} {cs : Scope} {a : Addr} {ccd : Value} {cl : List (Str × Addr)} {outer : List Env} {A₀ : Around} {base h₀ : Heap} {L : Addr} {m : Names} {news : Led} {s : Shared} {Q E : Value → Shared → Prop}
    (B : Below A₀ base outer h₀) (F : Fr h₀ L s.heap m) (X : (hd.heap_1 w.params).In h₀) (N : News h₀ L s.heap news) (T : Top p loose mean mg mb h₀) (hk : cs.kind = .function) (hd : dp + lv < recursionLimit) (hu : un + 8 * lv < cLine)
    (ret : ∀ (t : Tok) (h' : Heap) (tk' : Nat), Fr h₀ L h' m → News h₀ L h' news → Q (R t) { s with heap := h', toks := tk' }) :
    wpAny (model pw w) (ktrTop dp un gd cn cs L a ccd cl outer) (call (.ref f) vs) Q E s := C _ _ _ _ _ _ _ _ _ _ _ _ _ _ _ _ _ _ _ _ _ _ _ B F X N T hk hd hu ret

section
variable {h₀ h' : Heap} {L : Addr} {m : Names} {news : Led} {s : Shared} {Q : Value → Shared → Prop} {t : Tok} {tk' : Nat}
theorem endI {x y : Int} (hret : ∀ (t : Tok) (h' : Heap) (tk' : Nat), Fr h₀ L h' m → News h₀ L h' news → Q (.int x t) { s with heap := h', toks := tk' }) (e : y = x) (F : Fr h₀ L h' m) (N : News h₀ L h' news) : Q (.int y t) { s with heap := h', toks := tk' } := e ▸ hret t h' tk' F N
theorem endB {x y : Bool} (hret : ∀ (t : Tok) (h' : Heap) (tk' : Nat), Fr h₀ L h' m → News h₀ L h' news → Q (.bool x) { s with heap := h', toks := tk' }) (e : y = x) (F : Fr h₀ L h' m) (N : News h₀ L h' news) : Q (.bool y) { s with heap := h', toks := tk' } := e ▸ hret 0 h' tk' F N
theorem endS {x y : Str} (hret : ∀ (t : Tok) (h' : Heap) (tk' : Nat), Fr h₀ L h' m → News h₀ L h' news → Q (.str x t) { s with heap := h', toks := tk' }) (e : y = x) (F : Fr h₀ L h' m) (N : News h₀ L h' news) : Q (.str y t) { s with heap := h', toks := tk' } := e ▸ hret t h' tk' F N
end
theorem drop1 {h₀ h : Heap} {L : Addr} {x : Addr × Obj} {l : Led} (N : News h₀ L h (x :: l)) : News h₀ L h l := fun p hp => N p (.tail _ hp)
theorem drop2 {h₀ h : Heap} {L : Addr} {x y : Addr × Obj} {l : Led} (N : News h₀ L h (x :: y :: l)) : News h₀ L h l := drop1 (drop1 N)
theorem drop3 {h₀ h : Heap} {L : Addr} {x y z : Addr × Obj} {l : Led} (N : News h₀ L h (x :: y :: z :: l)) : News h₀ L h l := drop1 (drop2 N)
theorem drop4 {h₀ h : Heap} {L : Addr} {x y z u : Addr × Obj} {l : Led} (N : News h₀ L h (x :: y :: z :: u :: l)) : News h₀ L h l := drop1 (drop3 N)
/- Words of this file's own for a walk: the entry of a def, its ends. -/
local macro_rules | `(tactic| walk_at "mine enter") => `(tactic| (intro p loose mean mg mb dp un gd cn cs ad ccd cl outer A₀ base h₀ L m news s Q E B F X N T hk hd hu hret; refine wpAny_call ?_; k_dflt ktr_enter))
local macro_rules | `(tactic| walk_at "mine end") => `(tactic| first
  | (refine' endI ?kh ?ke ?kF ?kN; (case kh => assumption); (case kF => assumption); (case kN => first | assumption | exact drop1 (by assumption) | exact drop2 (by assumption) | exact drop3 (by assumption) | exact drop4 (by assumption)))
  | (refine' endB ?kh ?ke ?kF ?kN; (case kh => assumption); (case kF => assumption); (case kN => first | assumption | exact drop1 (by assumption) | exact drop2 (by assumption) | exact drop3 (by assumption) | exact drop4 (by assumption)))
  | (refine' endS ?kh ?ke ?kF ?kN; (case kh => assumption); (case kF => assumption); (case kN => first | assumption | exact drop1 (by assumption) | exact drop2 (by assumption) | exact drop3 (by assumption) | exact drop4 (by assumption))))

/- A loop over a written tuple of ints, by an invariant over what is left. -/
def TurnEnd (h₀ : Heap) (L : Addr) (s : Shared) (I : Addr) (o : Obj) (led : Led) (P : Names → Prop) (f : Flow) (s' : Shared) : Prop :=
  f = .next ∧ ∃ (h : Heap) (tk : Nat) (m : Names), s' = { s with heap := h, toks := tk } ∧ Fr h₀ L h m ∧ News h₀ L h ((I, o) :: led) ∧ P m
section
variable {prog : Program} {w : World} {A : Around} {E : Value → Shared → Prop} {h₀ : Heap} {env : Env} {target : Expr} {body : List Stmt} {Q : Flow → Shared → Prop} {s : Shared} {I ax : Addr} {lo : Obj} {led : Led} {cl : String}
theorem items_ind (Inv : List Int → Names → Prop) (hI : ∀ p ∈ led, p.1 < I) (hk : (ax, lo) ∈ led)
    (turn : ∀ (st : Int) (u : Tok) (r : List Int) (m : Names) (h : Heap) (tk : Nat) (o : Obj), Inv (st :: r) m → Fr h₀ env.locals h m → News h₀ env.locals h ((I, o) :: led) →
      wpAny (model prog w) A (assign target env (.int st u)) (fun _ s₂ => wpAny (model prog w) A (execs body env) (TurnEnd h₀ env.locals { s with heap := h, toks := tk } I o led (Inv r)) E s₂) E { s with heap := h, toks := tk })
    (fin : ∀ (m : Names) (h : Heap) (tk : Nat), Inv [] m → Fr h₀ env.locals h m → News h₀ env.locals h led → Q .next { s with heap := h, toks := tk }) :
    ∀ (xs : List (Int × Tok)) (m : Names), Inv (xs.map (·.1)) m → ItemsRest prog w A E h₀ env target body Q s [(I, cl)] [(ax, lo)] (xs.map fun x => .val (.int x.1 x.2)) m led
  | [], m, hi => fun h tk F N => fin m h tk hi F N
  | x :: xs, m, hi => by
    intro v h tk e F o hc N
    obtain rfl : v = .int x.1 x.2 := e
    refine wpAny_mono (turn x.1 x.2 (xs.map fun y : Int × Tok => y.1) m h tk o hi F N) (fun _ s₂ h₂ => wpAny_mono h₂ (fun f s₃ h₃ => ?_) fun _ _ z => z) fun _ _ z => z
    obtain ⟨rfl, h', tk', m', rfl, F', N', hi'⟩ := h₃
    exact ⟨h', tk', m', led, rfl, F', N', (fun p hp q hq => by rw [List.mem_singleton.mp hq]; exact Nat.ne_of_lt (hI p hp)), ⟨hk, trivial⟩, items_ind Inv hI hk turn fin xs m' hi'⟩
end

/- width: what the loop over the steps keeps. -/
def kM (n k : Int) (t u : Tok) (m : Names) : Names := fun y => if y = Str.ofString "many" then some (.int k u) else if y = Str.ofString "n" then some (.int n t) else m y
theorem kM_self {m : Names} {n k : Int} {t u : Tok} (h1 : m (Str.ofString "many") = some (.int k u)) (h2 : m (Str.ofString "n") = some (.int n t)) : m = kM n k t u m := by
  funext y
  unfold kM
  by_cases hy : y = Str.ofString "many"
  · rw [if_pos hy, hy, h1]
  · rw [if_neg hy]
    by_cases hz : y = Str.ofString "n"
    · rw [if_pos hz, hz, h2]
    · rw [if_neg hz]
def bnd : List Int → Int
  | [] => 2
  | st :: _ => 2 ^ (2 * st).toNat
noncomputable def Chain : List Int → Prop
  | [] => True
  | st :: r => 1 ≤ st ∧ st ≤ 32 ∧ bnd r = 2 ^ st.toNat ∧ Chain r
def WInv (B : Int) (xs : List Int) (m : Names) : Prop := Chain xs ∧ ∃ (n k : Int) (t u : Tok) (m₁ : Names), m = kM n k t u m₁ ∧ 0 ≤ n ∧ n < bnd xs ∧ k + (bits n : Int) = B

variable (w : World)
theorem w_state {n k B : Int} (h : 1 * 2 ^ Int.toNat 64 ≤ n) (h0 : 0 ≤ n) (e : k + (bits n : Int) = B) : 0 ≤ n.fdiv (2 ^ Int.toNat 64) ∧ k + 64 + (bits (n.fdiv (2 ^ Int.toNat 64)) : Int) = B := by
  have := bits_fdiv h0 (Int.toNat 64) (by rwa [Int.one_mul] at h)
  refine ⟨fdiv_nonneg h0 _, ?_⟩
  have e64 : (Int.toNat 64 : Int) = 64 := rfl
  omega
theorem w_meas {n : Int} (h : 1 * 2 ^ Int.toNat 64 ≤ n) : (n.fdiv (2 ^ Int.toNat 64)).toNat < n.toNat := by
  have e64 : ((2 : Int) ^ Int.toNat 64) = 18446744073709551616 := by decide
  rw [Int.one_mul, e64] at h
  rw [fdiv_p2, e64]
  omega
theorem w_start {n k B : Int} {t u : Tok} {m : Names} (hn : 0 ≤ n) (hb : ¬ 1 * 2 ^ Int.toNat 64 ≤ n) (e : k + (bits n : Int) = B) (h1 : m (Str.ofString "many") = some (.int k u)) (h2 : m (Str.ofString "n") = some (.int n t)) : WInv B [32, 16, 8, 4, 2, 1] m :=
  ⟨⟨by decide, by decide, rfl, by decide, by decide, rfl, by decide, by decide, rfl, by decide, by decide, rfl, by decide, by decide, rfl, by decide, by decide, rfl, trivial⟩, n, k, t, u, m, kM_self h1 h2, hn, by rw [Int.one_mul] at hb; exact Int.not_le.mp hb, e⟩
theorem w_taken {n k B st : Int} {r : List Int} {t u : Tok} {m : Names} (hc : Chain (st :: r)) (hn : 0 ≤ n) (hb : n < bnd (st :: r)) (e : k + (bits n : Int) = B) (h : 1 * 2 ^ st.toNat ≤ n) (h1 : m (Str.ofString "many") = some (.int (k + st) u)) (h2 : m (Str.ofString "n") = some (.int (n.fdiv (2 ^ st.toNat)) t)) : WInv B r m := by
  obtain ⟨c1, c2, c3, c4⟩ := hc
  rw [Int.one_mul] at h
  refine ⟨c4, _, _, t, u, m, kM_self h1 h2, fdiv_nonneg hn _, ?_, ?_⟩
  · rw [c3]
    have hb' : n < 2 ^ (2 * st).toNat := hb
    have e2 : (2 * st).toNat = st.toNat + st.toNat := by omega
    rw [e2] at hb'
    exact (fdiv_lt _ _).mpr hb'
  · have := bits_fdiv hn st.toNat h
    omega
theorem w_left {n k B st : Int} {r : List Int} {t u : Tok} {m : Names} (hc : Chain (st :: r)) (hn : 0 ≤ n) (e : k + (bits n : Int) = B) (h : ¬ 1 * 2 ^ st.toNat ≤ n) (h1 : m (Str.ofString "many") = some (.int k u)) (h2 : m (Str.ofString "n") = some (.int n t)) : WInv B r m := by
  obtain ⟨c1, c2, c3, c4⟩ := hc
  rw [Int.one_mul] at h
  exact ⟨c4, n, k, t, u, m, kM_self h1 h2, hn, by rw [c3]; exact Int.not_le.mp h, e⟩
theorem width_ct (n : Int) (t : Tok) (h0 : 0 ≤ n) : Ct w 1 148 [.int n t] (fun t => .int (bits n : Int) t) := by
  walk_at "mine enter"
  (k_with "exec While Compare cons nil" => k_while_given ["n!"] (fun n₀ script n many => 0 ≤ n ∧ many + (Builtin.Int.intBits n : Int) = (Builtin.Int.intBits n₀ : Int)) (fun n₀ script n many => n.toNat) "n" "many")
  (k_with "state" => first | exact w_state (by assumption) (by assumption) (by assumption) | exact ⟨by assumption, Int.zero_add _⟩)
  (k_with "measure" => exact w_meas (by assumption))
  (k_with "pyIter ref" => fail "mine")
  k_steps
  rename (¬ _ ≤ _) => hb
  rename (0 ≤ _) => hn
  rename (_ + _ = _) => he
  rename Fr _ _ _ _ => F1
  rename News _ _ _ _ => N1
  with_unfolding_all refine iter_tupTurns (by rfl) F1 N1 (List.Mem.head _) (by rfl) (by rfl) (fun I l1 => ?_)
  refine items_ind (WInv (bits n)) l1 (List.Mem.head _) ?turn ?fin [(32, _), (16, _), (8, _), (4, _), (2, _), (1, _)] _ ?start
  case start => exact w_start hn hb he (by rfl) (by rfl)
  case turn =>
    intro st u r m h tk o hi F N
    clear hb hn he F1 N1
    obtain ⟨hc, n1, k1, t1, u1, m1, rfl, n0, nb, e⟩ := hi
    have c1 : 1 ≤ st := hc.1
    have c2 : st ≤ 32 := hc.2.1
    dsimp only [envOf] at F N
    try k_fold
    k_steps
    all_goals refine ⟨rfl, _, _, _, rfl, by assumption, by assumption, ?_⟩
    · exact w_taken hc n0 nb e (by assumption) (by rfl) (by rfl)
    · exact w_left hc n0 e (by assumption) (by rfl) (by rfl)
  case fin =>
    intro m h tk hi F N
    clear hb hn he F1 N1
    obtain ⟨-, n1, k1, t1, u1, m1, rfl, n0, nb, e⟩ := hi
    dsimp only [envOf] at F N
    try dsimp only
    try k_fold
    k_steps
    all_goals walk_at "mine end"
    rw [← e, bits_small n0 nb]
local macro_rules | `(tactic| walk_at "eval Call") => `(tactic| (with_unfolding_all refine Call_ ?_))
/- Calls that give back a new tuple of two or three ints. -/
abbrev tup2 (a b : Int) (t u : Tok) : Obj := { cls := .type "tuple", data := .seq #[.int a t, .int b u] }
abbrev tup3 (a b c : Int) (t u v : Tok) : Obj := { cls := .type "tuple", data := .seq #[.int a t, .int b u, .int c v] }
def Ct3 (w : World) (lv : Nat) (f : Addr) (vs : List Value) (x y z : Int) : Prop :=
  ∀ (p : Program) (loose : List Str) (mean : ExcName → Option Value) (mg mb : Names) (dp un : Nat) (gd : Option (List Code)) (cn : Str) (cs : Scope) (a : Addr) (ccd : Value) (cl : List (Str × Addr)) (outer : List Env) (A₀ : Around) (base h₀ : Heap) (L : Addr) (m : Names) (news : Led) (s : Shared) (Q E : Value → Shared → Prop),
    Below A₀ base outer h₀ → Fr h₀ L s.heap m → (hd.heap_1 w.params).In h₀ → News h₀ L s.heap news → Top p loose mean mg mb h₀ → cs.kind = .function → dp + lv < recursionLimit → un + 8 * lv < cLine →
    (∀ (D : Addr) (t u v : Tok) (h' : Heap) (tk' : Nat), Fr h₀ L h' m → News h₀ L h' ((D, tup3 x y z t u v) :: news) → Q (.ref D) { s with heap := h', toks := tk' }) →
    wpAny (model pw w) (ktrTop dp un gd cn cs L a ccd cl outer) (call (.ref f) vs) Q E s
theorem Ct3.use {w : World} {lv : Nat} {f : Addr} {vs : List Value} {x y z : Int} (C : Ct3 w lv f vs x y z) {p : Program} {loose : List Str} {mean : ExcName → Option Value} {mg mb : Names} {dp un : Nat} {gd : Option (List Code)} {cn : Str} {cs : Scope} {a : Addr} {ccd : Value} {cl : List (Str × Addr)} {outer : List Env} {A₀ : Around} {base h₀ : Heap} {L : Addr} {m : Names} {news : Led} {s : Shared} {Q E : Value → Shared → Prop}
    (B : Below A₀ base outer h₀) (F : Fr h₀ L s.heap m) (X : (hd.heap_1 w.params).In h₀) (N : News h₀ L s.heap news) (T : Top p loose mean mg mb h₀) (hk : cs.kind = .function) (hd : dp + lv < recursionLimit) (hu : un + 8 * lv < cLine)
    (ret : ∀ (D : Addr) (t u v : Tok) (h' : Heap) (tk' : Nat), Fr h₀ L h' m → News h₀ L h' ((D, tup3 x y z t u v) :: news) → Q (.ref D) { s with heap := h', toks := tk' }) :
    wpAny (model pw w) (ktrTop dp un gd cn cs L a ccd cl outer) (call (.ref f) vs) Q E s := C _ _ _ _ _ _ _ _ _ _ _ _ _ _ _ _ _ _ _ _ _ _ _ B F X N T hk hd hu ret
theorem keep1 {h₀ h : Heap} {L : Addr} {x y : Addr × Obj} {l : Led} (N : News h₀ L h (x :: y :: l)) : News h₀ L h (x :: l) := fun p hp => N p (by
  rcases List.mem_cons.mp hp with rfl | hp
  · exact .head _
  · exact .tail _ (.tail _ hp))
section
variable {h₀ h' : Heap} {L D : Addr} {m : Names} {news : Led} {s : Shared} {Q : Value → Shared → Prop} {t u v : Tok} {tk' : Nat}
theorem end3 {x y z x' y' z' : Int} (hret : ∀ (D : Addr) (t u v : Tok) (h' : Heap) (tk' : Nat), Fr h₀ L h' m → News h₀ L h' ((D, tup3 x y z t u v) :: news) → Q (.ref D) { s with heap := h', toks := tk' }) (e1 : x' = x) (e2 : y' = y) (e3 : z' = z)
    (F : Fr h₀ L h' m) (N : News h₀ L h' ((D, tup3 x' y' z' t u v) :: news)) : Q (.ref D) { s with heap := h', toks := tk' } := by
  subst e1 e2 e3
  exact hret D t u v h' tk' F N
end
local macro_rules | `(tactic| walk_at "mine end3") => `(tactic| (refine' end3 ?kh ?e1 ?e2 ?e3 ?kF ?kN; (case kh => assumption); (case kF => assumption); (case kN => first | assumption | exact keep1 (by assumption))))
local macro_rules | `(tactic| walk_at "binaryOp FloorDiv int int") => `(tactic| with_reducible refine floordiv_int (by with_reducible assumption) ?_ (Or.inl (by with_reducible assumption)))
local macro_rules | `(tactic| walk_at "binaryOp Mod int int") => `(tactic| with_reducible refine mod_int' (by first | with_reducible assumption | decide) ?_)
local macro_rules | `(tactic| walk_at "binaryOp LShift int int") => `(tactic| with_reducible refine lshift_int (by first | with_reducible assumption | decide) (by first | with_reducible assumption | decide) ?_)
local macro_rules | `(tactic| walk_at "binaryOp RShift int int") => `(tactic| with_reducible refine rshift_int (by first | with_reducible assumption | decide) ?_)
local macro_rules | `(tactic| walk_at "binaryOp Mult int int") => `(tactic| with_reducible refine P.mul_int ?_ (by with_reducible assumption))
theorem bits_shl {n : Int} (k : Nat) {m : Nat} (h : bits n + k ≤ m) : bits (n * 2 ^ k) ≤ m := by
  refine Nat.le_trans (intBits_le_iff.mpr ?_) h
  rw [Int.natAbs_mul, natAbs_p2, Nat.pow_add]
  exact Nat.mul_lt_mul_of_pos_right (intBits_le_iff.mp (Nat.le_refl _)) (Nat.two_pow_pos k)
theorem noPy {a b : Int} (h : bits b ≤ 8000) : Builtin.divisionGoesByPylong a b = false := by
  refine PyProof.noPylong_of_log2 ?_
  by_cases h0 : b.natAbs = 0
  · rw [h0]; decide
  · have := (Nat.log2_lt h0).mpr (intBits_le_iff.mp h)
    omega
theorem quotient_ct (top bottom power : Int) (t u v : Tok) (hb : 0 < bottom) (h1 : bits top ≤ 4500) (h2 : bits bottom ≤ 3300) (h3 : -3400 ≤ power) (h4 : power ≤ 4500) :
    Ct3 w 1 211 [.int top t, .int bottom u, .int power v] ((qT top power).fdiv (qB bottom power)) ((qT top power).fmod (qB bottom power)) (qB bottom power) := by
  have s1 : (bits bottom : Int) + power ≤ 2 ^ 27 := by omega
  have s2 : (bits top : Int) + -power ≤ 2 ^ 27 := by omega
  have n1 : bottom ≠ 0 := by omega
  have n2 : bottom * 2 ^ power.toNat ≠ 0 := Int.ne_of_gt (Int.mul_pos hb (pw_pos _))
  by_cases hp : 0 ≤ power
  · have y1 : Builtin.divisionGoesByPylong top (bottom * 2 ^ power.toNat) = false := noPy (bits_shl _ (by omega))
    walk_at "mine enter"
    k_steps
    all_goals walk_at "mine end3"
    all_goals simp only [qT, qB, hp, if_true, if_false]
  · have y2 : Builtin.divisionGoesByPylong (top * 2 ^ (-power).toNat) bottom = false := noPy (by omega)
    have hq : 0 ≤ -power := by omega
    walk_at "mine enter"
    k_steps
    all_goals walk_at "mine end3"
    all_goals simp only [qT, qB, hp, if_true, if_false]
theorem parts_ct (a : Int) (t : Tok) : Ct3 w 1 204 [.int a t] (partS a) (partM a) (partP a) := by
  walk_at "mine enter"
  k_steps
  all_goals walk_at "mine end3"
  all_goals first | rfl | exact (if_pos (by assumption)).symm | exact (if_neg (by assumption)).symm
theorem is_nan_ct (a : Int) (t : Tok) : Ct w 1 169 [.int a t] (fun _ => .bool (isNan a)) := by
  walk_at "mine enter"
  k_steps
  all_goals walk_at "mine end"
  rfl
theorem is_inf_ct (a : Int) (t : Tok) : Ct w 1 176 [.int a t] (fun _ => .bool (isInf a)) := by
  walk_at "mine enter"
  k_steps
  all_goals walk_at "mine end"
  rfl
theorem is_fin_ct (a : Int) (t : Tok) : Ct w 1 183 [.int a t] (fun _ => .bool (isFin a)) := by
  walk_at "mine enter"
  k_steps
  all_goals walk_at "mine end"
  rfl
theorem is_zero_ct (a : Int) (t : Tok) : Ct w 1 190 [.int a t] (fun _ => .bool (isZero a)) := by
  walk_at "mine enter"
  k_steps
  all_goals walk_at "mine end"
  rfl
theorem shl_room {n : Int} (h0 : 0 ≤ n) (h1 : n < 2 ^ 64) (k : Int) (h2 : k ≤ 10000) : (Builtin.Int.intBits n : Int) + k ≤ 2 ^ 27 := by
  have h3 : Builtin.Int.intBits n ≤ 64 := (bits_le h0).mpr h1
  omega
theorem signed_ct (sg b : Int) (t u : Tok) (h0 : 0 ≤ sg) (h1 : sg ≤ 1) : Ct w 1 197 [.int sg t, .int b u] (fun t => .int (signedF sg b) t) := by
  have s1 := shl_room h0 (by omega) 63 (by decide)
  walk_at "mine enter"
  k_steps
  all_goals walk_at "mine end"
  rfl
theorem pack_ct (sg e f : Int) (t u v : Tok) (h0 : 0 ≤ sg) (h1 : sg ≤ 1) (h2 : 0 ≤ e) (h3 : e ≤ 100000) : Ct w 1 155 [.int sg t, .int e u, .int f v] (fun t => .int (packF sg e f) t) := by
  have s1 := shl_room h0 (by omega) 63 (by decide)
  have s2 := shl_room h2 (by omega) 52 (by decide)
  walk_at "mine enter"
  k_steps
  all_goals walk_at "mine end"
  rfl
local macro_rules | `(tactic| walk_at "mine pre") => `(tactic| with_reducible first | assumption | decide)
local macro_rules | `(tactic| walk_at "call ref") => `(tactic| ((with_reducible show wpAny _ _ (call (Value.ref 148) _) _ _ _); k_dflt (refine' Ct.use (width_ct _ _ _ ?p0) ?k1 ?k2 ?k3 ?k4 ?k5 ?kK ?kd ?ku ?_; (case k1 => k_asm); (case k2 => k_asm); (case k3 => k_asm); (case k4 => k_asm); (case k5 => k_asm); (case kK => first | exact rfl | assumption); (case p0 => walk_at "mine pre"); (case kd => ktr_room); (case ku => ktr_units)); intro t9 h9 tk9 F9 N9; (try dsimp only); (try k_fold)))
local macro_rules | `(tactic| walk_at "call ref") => `(tactic| ((with_reducible show wpAny _ _ (call (Value.ref 211) _) _ _ _); k_dflt (refine' Ct3.use (quotient_ct _ _ _ _ _ _ _ ?p0 ?p1 ?p2 ?p3 ?p4) ?k1 ?k2 ?k3 ?k4 ?k5 ?kK ?kd ?ku ?_; (case k1 => k_asm); (case k2 => k_asm); (case k3 => k_asm); (case k4 => k_asm); (case k5 => k_asm); (case kK => first | exact rfl | assumption); (case p0 => walk_at "mine pre"); (case p1 => walk_at "mine pre"); (case p2 => walk_at "mine pre"); (case p3 => walk_at "mine pre"); (case p4 => walk_at "mine pre"); (case kd => ktr_room); (case ku => ktr_units)); intro D9 t9 u9 v9 h9 tk9 F9 N9; (try dsimp only); (try k_fold)))
local macro_rules | `(tactic| walk_at "call ref") => `(tactic| ((with_reducible show wpAny _ _ (call (Value.ref 204) _) _ _ _); k_dflt (refine' Ct3.use (parts_ct _ _ _) ?k1 ?k2 ?k3 ?k4 ?k5 ?kK ?kd ?ku ?_; (case k1 => k_asm); (case k2 => k_asm); (case k3 => k_asm); (case k4 => k_asm); (case k5 => k_asm); (case kK => first | exact rfl | assumption); (case kd => ktr_room); (case ku => ktr_units)); intro D9 t9 u9 v9 h9 tk9 F9 N9; (try dsimp only); (try k_fold)))
local macro_rules | `(tactic| walk_at "call ref") => `(tactic| ((with_reducible show wpAny _ _ (call (Value.ref 169) _) _ _ _); k_dflt (refine' Ct.use (is_nan_ct _ _ _) ?k1 ?k2 ?k3 ?k4 ?k5 ?kK ?kd ?ku ?_; (case k1 => k_asm); (case k2 => k_asm); (case k3 => k_asm); (case k4 => k_asm); (case k5 => k_asm); (case kK => first | exact rfl | assumption); (case kd => ktr_room); (case ku => ktr_units)); intro t9 h9 tk9 F9 N9; (try dsimp only); (try k_fold)))
local macro_rules | `(tactic| walk_at "call ref") => `(tactic| ((with_reducible show wpAny _ _ (call (Value.ref 176) _) _ _ _); k_dflt (refine' Ct.use (is_inf_ct _ _ _) ?k1 ?k2 ?k3 ?k4 ?k5 ?kK ?kd ?ku ?_; (case k1 => k_asm); (case k2 => k_asm); (case k3 => k_asm); (case k4 => k_asm); (case k5 => k_asm); (case kK => first | exact rfl | assumption); (case kd => ktr_room); (case ku => ktr_units)); intro t9 h9 tk9 F9 N9; (try dsimp only); (try k_fold)))
local macro_rules | `(tactic| walk_at "call ref") => `(tactic| ((with_reducible show wpAny _ _ (call (Value.ref 183) _) _ _ _); k_dflt (refine' Ct.use (is_fin_ct _ _ _) ?k1 ?k2 ?k3 ?k4 ?k5 ?kK ?kd ?ku ?_; (case k1 => k_asm); (case k2 => k_asm); (case k3 => k_asm); (case k4 => k_asm); (case k5 => k_asm); (case kK => first | exact rfl | assumption); (case kd => ktr_room); (case ku => ktr_units)); intro t9 h9 tk9 F9 N9; (try dsimp only); (try k_fold)))
local macro_rules | `(tactic| walk_at "call ref") => `(tactic| ((with_reducible show wpAny _ _ (call (Value.ref 190) _) _ _ _); k_dflt (refine' Ct.use (is_zero_ct _ _ _) ?k1 ?k2 ?k3 ?k4 ?k5 ?kK ?kd ?ku ?_; (case k1 => k_asm); (case k2 => k_asm); (case k3 => k_asm); (case k4 => k_asm); (case k5 => k_asm); (case kK => first | exact rfl | assumption); (case kd => ktr_room); (case ku => ktr_units)); intro t9 h9 tk9 F9 N9; (try dsimp only); (try k_fold)))
local macro_rules | `(tactic| walk_at "call ref") => `(tactic| ((with_reducible show wpAny _ _ (call (Value.ref 197) _) _ _ _); k_dflt (refine' Ct.use (signed_ct _ _ _ _ _ ?p0 ?p1) ?k1 ?k2 ?k3 ?k4 ?k5 ?kK ?kd ?ku ?_; (case k1 => k_asm); (case k2 => k_asm); (case k3 => k_asm); (case k4 => k_asm); (case k5 => k_asm); (case kK => first | exact rfl | assumption); (case p0 => walk_at "mine pre"); (case p1 => walk_at "mine pre"); (case kd => ktr_room); (case ku => ktr_units)); intro t9 h9 tk9 F9 N9; (try dsimp only); (try k_fold)))
local macro_rules | `(tactic| walk_at "call ref") => `(tactic| ((with_reducible show wpAny _ _ (call (Value.ref 155) _) _ _ _); k_dflt (refine' Ct.use (pack_ct _ _ _ _ _ _ _ ?p0 ?p1 ?p2 ?p3) ?k1 ?k2 ?k3 ?k4 ?k5 ?kK ?kd ?ku ?_; (case k1 => k_asm); (case k2 => k_asm); (case k3 => k_asm); (case k4 => k_asm); (case k5 => k_asm); (case kK => first | exact rfl | assumption); (case p0 => walk_at "mine pre"); (case p1 => walk_at "mine pre"); (case p2 => walk_at "mine pre"); (case p3 => walk_at "mine pre"); (case kd => ktr_room); (case ku => ktr_units)); intro t9 h9 tk9 F9 N9; (try dsimp only); (try k_fold)))

theorem e53 : (4503599627370496 : Int) * 2 ^ Int.toNat 1 = 9007199254740992 := by decide
section
variable {sg whole power : Int}
theorem asm1 (h : whole = 4503599627370496 * 2 ^ Int.toNat 1) (k : 2047 ≤ power + 1 + 1075) : signedF sg 9218868437227405312 = asmF sg whole power := by
  rw [e53] at h
  unfold asmF
  rw [if_pos h, if_pos k]
theorem asm2 (h : whole = 4503599627370496 * 2 ^ Int.toNat 1) (k : ¬ 2047 ≤ power + 1 + 1075) : packF sg (power + 1 + 1075) (4503599627370496 - 4503599627370496) = asmF sg whole power := by
  rw [e53] at h
  unfold asmF
  rw [if_pos h, if_neg k]
  rfl
theorem asm3 (h : whole ≠ 4503599627370496 * 2 ^ Int.toNat 1) (k : whole < 4503599627370496) : Builtin.bitOr (sg * 2 ^ Int.toNat 63) whole = asmF sg whole power := by
  rw [e53] at h
  unfold asmF
  rw [if_neg h, if_pos k]
  rfl
theorem asm4 (h : whole ≠ 4503599627370496 * 2 ^ Int.toNat 1) (k : ¬ whole < 4503599627370496) (l : 2047 ≤ power + 1075) : signedF sg 9218868437227405312 = asmF sg whole power := by
  rw [e53] at h
  unfold asmF
  rw [if_neg h, if_neg k, if_pos l]
theorem asm5 (h : whole ≠ 4503599627370496 * 2 ^ Int.toNat 1) (k : ¬ whole < 4503599627370496) (l : ¬ 2047 ≤ power + 1075) : packF sg (power + 1075) (whole - 4503599627370496) = asmF sg whole power := by
  rw [e53] at h
  unfold asmF
  rw [if_neg h, if_neg k, if_neg l]
end
theorem asm_ct (sg whole power : Int) (t u v : Tok) (h0 : 0 ≤ sg) (h1 : sg ≤ 1) (h2 : -1074 ≤ power) (h3 : power ≤ 10000) : Ct w 2 225 [.int sg t, .int whole u, .int power v] (fun t => .int (asmF sg whole power) t) := by
  have s1 := shl_room h0 (by omega) 63 (by decide)
  have f1 : 0 ≤ power + 1075 := by omega
  have f2 : power + 1075 ≤ 100000 := by omega
  have f3 : 0 ≤ power + 1 + 1075 := by omega
  have f4 : power + 1 + 1075 ≤ 100000 := by omega
  walk_at "mine enter"
  k_steps
  all_goals walk_at "mine end"
  all_goals with_reducible first
    | exact asm1 (by with_reducible assumption) (by with_reducible assumption)
    | exact asm2 (by with_reducible assumption) (by with_reducible assumption)
    | exact asm3 (by with_reducible assumption) (by with_reducible assumption)
    | exact asm4 (by with_reducible assumption) (by with_reducible assumption) (by with_reducible assumption)
    | exact asm5 (by with_reducible assumption) (by with_reducible assumption) (by with_reducible assumption)
local macro_rules | `(tactic| walk_at "call ref") => `(tactic| ((with_reducible show wpAny _ _ (call (Value.ref 225) _) _ _ _); k_dflt (refine' Ct.use (asm_ct _ _ _ _ _ _ _ ?p0 ?p1 ?p2 ?p3) ?k1 ?k2 ?k3 ?k4 ?k5 ?kK ?kd ?ku ?_; (case k1 => k_asm); (case k2 => k_asm); (case k3 => k_asm); (case k4 => k_asm); (case k5 => k_asm); (case kK => first | exact rfl | assumption); (case p0 => walk_at "mine pre"); (case p1 => walk_at "mine pre"); (case p2 => walk_at "mine pre"); (case p3 => walk_at "mine pre"); (case kd => ktr_room); (case ku => ktr_units)); intro t9 h9 tk9 F9 N9; (try dsimp only); (try k_fold)))

theorem rr_end {sg top bottom P W : Int} (h0 : top ≠ 0) (hq : rrQ top bottom = P) (hu : upF ((qT top P).fdiv (qB bottom P)) ((qT top P).fmod (qB bottom P)) (qB bottom P) = W) : asmF sg W P = rrF sg top bottom := by
  unfold rrF
  rw [if_neg h0, hq, hu]
theorem rr0 {sg top bottom : Int} (h : top = 0) : sg * 2 ^ Int.toNat 63 = rrF sg top bottom := by
  unfold rrF
  rw [if_pos h]
  rfl
theorem rrq_lo {top bottom P : Int} (hP : P = rrP top bottom) (h : ¬ 4503599627370496 * 2 ^ Int.toNat 1 ≤ (qT top P).fdiv (qB bottom P)) : rrQ top bottom = P := by
  rw [e53, hP] at h
  unfold rrQ
  rw [if_neg h, hP]
theorem rrq_hi {top bottom P : Int} (hP : P = rrP top bottom) (h : 4503599627370496 * 2 ^ Int.toNat 1 ≤ (qT top P).fdiv (qB bottom P)) : rrQ top bottom = P + 1 := by
  rw [e53, hP] at h
  unfold rrQ
  rw [if_pos h, hP]
section
variable {a r u : Int}
theorem up1 (h : u < 2 * r) : upF a r u = a + 1 := if_pos (.inl h)
theorem up2 (h : 2 * r = u) (k : a.fmod 2 = 1) : upF a r u = a + 1 := if_pos (.inr ⟨h, k⟩)
theorem up3 (h : ¬ u < 2 * r) (k : a.fmod 2 ≠ 1) : upF a r u = a := if_neg fun x => x.elim h fun y => k y.2
theorem up4 (h : ¬ u < 2 * r) (k : 2 * r ≠ u) : upF a r u = a := if_neg fun x => x.elim h fun y => k y.1
end
local macro_rules | `(tactic| walk_at "call builtin:max") => `(tactic| (k_here; k_dflt (refine' max_two_N ?hh ?F ?N ?_; (case hh => rfl); (case F => k_asm); (case N => k_asm)); intro h' tk' F' N'; (rename (_ = ite (_ > _) _ _) => hq'); rw [← hq']))
theorem rr_ct (sg top bottom : Int) (t u v : Tok) (h0 : 0 ≤ sg) (h1 : sg ≤ 1) (ht : 0 ≤ top) (hb : 0 < bottom) (b1 : bits top ≤ 4500) (b2 : bits bottom ≤ 3300) :
    Ct w 3 218 [.int sg t, .int top u, .int bottom v] (fun t => .int (rrF sg top bottom) t) := by
  have s1 := shl_room h0 (by omega) 63 (by decide)
  have hb0 : 0 ≤ bottom := by omega
  obtain ⟨P, hP⟩ : ∃ P, P = rrP top bottom := ⟨_, rfl⟩
  have hP' : P = (if (-1074 : Int) > (bits top : Int) - bits bottom - 53 then -1074 else (bits top : Int) - bits bottom - 53) := hP
  have hPb : -1074 ≤ P ∧ P ≤ 4447 := by rw [hP']; split <;> omega
  have p1 : -3400 ≤ P := by omega
  have p2 : P ≤ 4500 := by omega
  have p3 : -3400 ≤ P + 1 := by omega
  have p4 : P + 1 ≤ 4500 := by omega
  have p5 : -1074 ≤ P := by omega
  have p6 : P ≤ 10000 := by omega
  have p7 : -1074 ≤ P + 1 := by omega
  have p8 : P + 1 ≤ 10000 := by omega
  have m1 : IntMulOk 2 ((qT top P).fmod (qB bottom P)) := IntMulOk.of_left (by decide)
  have m2 : IntMulOk 2 ((qT top (P + 1)).fmod (qB bottom (P + 1))) := IntMulOk.of_left (by decide)
  walk_at "mine enter"
  k_steps
  all_goals walk_at "mine end"
  all_goals with_reducible first
    | exact rr0 (by with_reducible assumption)
    | exact rr_end (by with_reducible assumption) (rrq_hi hP (by with_reducible assumption)) (up1 (by with_reducible assumption))
    | exact rr_end (by with_reducible assumption) (rrq_hi hP (by with_reducible assumption)) (up2 (by with_reducible assumption) (by with_reducible assumption))
    | exact rr_end (by with_reducible assumption) (rrq_hi hP (by with_reducible assumption)) (up3 (by with_reducible assumption) (by with_reducible assumption))
    | exact rr_end (by with_reducible assumption) (rrq_hi hP (by with_reducible assumption)) (up4 (by with_reducible assumption) (by with_reducible assumption))
    | exact rr_end (by with_reducible assumption) (rrq_lo hP (by with_reducible assumption)) (up1 (by with_reducible assumption))
    | exact rr_end (by with_reducible assumption) (rrq_lo hP (by with_reducible assumption)) (up2 (by with_reducible assumption) (by with_reducible assumption))
    | exact rr_end (by with_reducible assumption) (rrq_lo hP (by with_reducible assumption)) (up3 (by with_reducible assumption) (by with_reducible assumption))
    | exact rr_end (by with_reducible assumption) (rrq_lo hP (by with_reducible assumption)) (up4 (by with_reducible assumption) (by with_reducible assumption))
local macro_rules | `(tactic| walk_at "call ref") => `(tactic| ((with_reducible show wpAny _ _ (call (Value.ref 218) _) _ _ _); k_dflt (refine' Ct.use (rr_ct _ _ _ _ _ _ _ ?p0 ?p1 ?p2 ?p3 ?p4 ?p5) ?k1 ?k2 ?k3 ?k4 ?k5 ?kK ?kd ?ku ?_; (case k1 => k_asm); (case k2 => k_asm); (case k3 => k_asm); (case k4 => k_asm); (case k5 => k_asm); (case kK => first | exact rfl | assumption); (case p0 => walk_at "mine pre"); (case p1 => walk_at "mine pre"); (case p2 => walk_at "mine pre"); (case p3 => walk_at "mine pre"); (case p4 => walk_at "mine pre"); (case p5 => walk_at "mine pre"); (case kd => ktr_room); (case ku => ktr_units)); intro t9 h9 tk9 F9 N9; (try dsimp only); (try k_fold)))

theorem rs1 {sg m p : Int} (h : m = 0) : sg * 2 ^ Int.toNat 63 = rsF sg m p := by
  unfold rsF
  rw [if_pos (.inl h)]
  rfl
theorem rs2 {sg m p : Int} (h : (bits m : Int) + p ≤ -1074 - 1) : sg * 2 ^ Int.toNat 63 = rsF sg m p := by
  unfold rsF
  rw [if_pos (.inr h)]
  rfl
theorem rsn {m p : Int} (h : m ≠ 0) (h' : ¬ (bits m : Int) + p ≤ -1074 - 1) : ¬ (m = 0 ∨ (bits m : Int) + p ≤ -1075) := fun x => x.elim h h'
theorem rs3 {sg m p : Int} (h : m ≠ 0) (h' : ¬ (bits m : Int) + p ≤ -1074 - 1) (k : 1024 < (bits m : Int) + p) : signedF sg 9218868437227405312 = rsF sg m p := by
  unfold rsF
  rw [if_neg (rsn h h'), if_pos k]
theorem rs4 {sg m p : Int} (h : m ≠ 0) (h' : ¬ (bits m : Int) + p ≤ -1074 - 1) (k : ¬ 1024 < (bits m : Int) + p) (l : 0 ≤ p) : rrF sg (m * 2 ^ p.toNat) 1 = rsF sg m p := by
  unfold rsF
  rw [if_neg (rsn h h'), if_neg k, if_pos l]
theorem rs5 {sg m p : Int} (h : m ≠ 0) (h' : ¬ (bits m : Int) + p ≤ -1074 - 1) (k : ¬ 1024 < (bits m : Int) + p) (l : ¬ 0 ≤ p) : rrF sg m (1 * 2 ^ (-p).toNat) = rsF sg m p := by
  unfold rsF
  rw [if_neg (rsn h h'), if_neg k, if_neg l]
theorem rs_ct (sg m p : Int) (t u v : Tok) (h0 : 0 ≤ sg) (h1 : sg ≤ 1) (hm : 0 ≤ m) (b1 : bits m ≤ 2200) (p1 : -2200 ≤ p) (p2 : p ≤ 2200) :
    Ct w 4 232 [.int sg t, .int m u, .int p v] (fun t => .int (rsF sg m p) t) := by
  have s1 := shl_room h0 (by omega) 63 (by decide)
  have g1 : bits (m * 2 ^ p.toNat) ≤ 4500 := bits_shl _ (by omega)
  have e1 : bits 1 = 1 := by decide
  have g2 : bits (1 * 2 ^ (-p).toNat) ≤ 3300 := bits_shl _ (by omega)
  have g3 : bits 1 ≤ 3300 := by decide
  have g4 : bits m ≤ 4500 := by omega
  have g5 : 0 ≤ m * 2 ^ p.toNat := Int.mul_nonneg hm (Int.le_of_lt (pw_pos _))
  have g6 : (0 : Int) < 1 * 2 ^ (-p).toNat := Int.mul_pos (by decide) (pw_pos _)
  have s2 : (bits m : Int) + p ≤ 2 ^ 27 := by omega
  have s3 : (bits 1 : Int) + -p ≤ 2 ^ 27 := by
    have : bits 1 = 1 := by decide
    omega
  have hz : ¬ 0 ≤ p → 0 ≤ -p := by omega
  walk_at "mine enter"
  k_steps
  all_goals walk_at "mine end"
  all_goals with_reducible first
    | exact rs1 (by with_reducible assumption)
    | exact rs2 (by with_reducible assumption)
    | exact rs3 (by with_reducible assumption) (by with_reducible assumption) (by with_reducible assumption)
    | exact rs4 (by with_reducible assumption) (by with_reducible assumption) (by with_reducible assumption) (by with_reducible assumption)
    | exact rs5 (by with_reducible assumption) (by with_reducible assumption) (by with_reducible assumption) (by with_reducible assumption)
theorem fr1 {n : Int} (h : n < 0) : rrF 1 (if n < 0 then -n else n) 1 = fromF n := by
  show rrF 1 (absI n) 1 = rrF (if n < 0 then 1 else 0) (absI n) 1
  rw [if_pos h]
theorem fr2 {n : Int} (h : ¬ n < 0) : rrF 0 (if n < 0 then -n else n) 1 = fromF n := by
  show rrF 0 (absI n) 1 = rrF (if n < 0 then 1 else 0) (absI n) 1
  rw [if_neg h]
theorem abs_nn (n : Int) : 0 ≤ (if n < 0 then -n else n) := by split <;> omega
theorem abs_bits {n : Int} {m : Nat} (h : bits n ≤ m) : bits (if n < 0 then -n else n) ≤ m := by
  split
  · exact intBits_neg_le h
  · exact h
theorem fr_ct (n : Int) (t : Tok) (b1 : bits n ≤ 4500) : Ct w 4 239 [.int n t] (fun t => .int (fromF n) t) := by
  have g3 : bits 1 ≤ 3300 := by decide
  have g4 := abs_nn n
  have g5 := abs_bits b1
  walk_at "mine enter"
  k_steps
  all_goals walk_at "mine end"
  all_goals with_reducible first
    | exact fr1 (by with_reducible assumption)
    | exact fr2 (by with_reducible assumption)
theorem neg_ct (a : Int) (t : Tok) : Ct w 2 442 [.int a t] (fun t => .int (negF a) t) := by
  walk_at "mine enter"
  k_steps
  all_goals walk_at "mine end"
  all_goals first
    | exact (if_pos (by with_reducible assumption)).symm
    | exact (if_neg (by with_reducible assumption)).symm
    | exact (if_neg (by rename (isNan _ = false) => h; rw [h]; decide)).symm
local macro_rules | `(tactic| walk_at "call ref") => `(tactic| ((with_reducible show wpAny _ _ (call (Value.ref 232) _) _ _ _); k_dflt (refine' Ct.use (rs_ct _ _ _ _ _ _ _ ?p0 ?p1 ?p2 ?p3 ?p4 ?p5) ?k1 ?k2 ?k3 ?k4 ?k5 ?kK ?kd ?ku ?_; (case k1 => k_asm); (case k2 => k_asm); (case k3 => k_asm); (case k4 => k_asm); (case k5 => k_asm); (case kK => first | exact rfl | assumption); (case p0 => walk_at "mine pre"); (case p1 => walk_at "mine pre"); (case p2 => walk_at "mine pre"); (case p3 => walk_at "mine pre"); (case p4 => walk_at "mine pre"); (case p5 => walk_at "mine pre"); (case kd => ktr_room); (case ku => ktr_units)); intro t9 h9 tk9 F9 N9; (try dsimp only); (try k_fold)))
local macro_rules | `(tactic| walk_at "call ref") => `(tactic| ((with_reducible show wpAny _ _ (call (Value.ref 239) _) _ _ _); k_dflt (refine' Ct.use (fr_ct _ _ _ ?p0) ?k1 ?k2 ?k3 ?k4 ?k5 ?kK ?kd ?ku ?_; (case k1 => k_asm); (case k2 => k_asm); (case k3 => k_asm); (case k4 => k_asm); (case k5 => k_asm); (case kK => first | exact rfl | assumption); (case p0 => walk_at "mine pre"); (case kd => ktr_room); (case ku => ktr_units)); intro t9 h9 tk9 F9 N9; (try dsimp only); (try k_fold)))
local macro_rules | `(tactic| walk_at "call ref") => `(tactic| ((with_reducible show wpAny _ _ (call (Value.ref 442) _) _ _ _); k_dflt (refine' Ct.use (neg_ct _ _ _) ?k1 ?k2 ?k3 ?k4 ?k5 ?kK ?kd ?ku ?_; (case k1 => k_asm); (case k2 => k_asm); (case k3 => k_asm); (case k4 => k_asm); (case k5 => k_asm); (case kK => first | exact rfl | assumption); (case kd => ktr_room); (case ku => ktr_units)); intro t9 h9 tk9 F9 N9; (try dsimp only); (try k_fold)))
section

def Ct2 (w : World) (lv : Nat) (f : Addr) (vs : List Value) (Mem : Led → Prop) (x y : Int) : Prop :=
  ∀ (p : Program) (loose : List Str) (mean : ExcName → Option Value) (mg mb : Names) (dp un : Nat) (gd : Option (List Code)) (cn : Str) (cs : Scope) (a : Addr) (ccd : Value) (cl : List (Str × Addr)) (outer : List Env) (A₀ : Around) (base h₀ : Heap) (L : Addr) (m : Names) (news : Led) (s : Shared) (Q E : Value → Shared → Prop),
    Below A₀ base outer h₀ → Fr h₀ L s.heap m → (hd.heap_1 w.params).In h₀ → News h₀ L s.heap news → Top p loose mean mg mb h₀ → cs.kind = .function → dp + lv < recursionLimit → un + 8 * lv < cLine → Mem news →
    (∀ (D : Addr) (t u : Tok) (h' : Heap) (tk' : Nat), Fr h₀ L h' m → News h₀ L h' ((D, tup2 x y t u) :: news) → Q (.ref D) { s with heap := h', toks := tk' }) →
    wpAny (model pw w) (ktrTop dp un gd cn cs L a ccd cl outer) (call (.ref f) vs) Q E s
theorem Ct2.use {w : World} {lv : Nat} {f : Addr} {vs : List Value} {Mem : Led → Prop} {x y : Int} (C : Ct2 w lv f vs Mem x y) {p : Program} {loose : List Str} {mean : ExcName → Option Value} {mg mb : Names} {dp un : Nat} {gd : Option (List Code)} {cn : Str} {cs : Scope} {a : Addr} {ccd : Value} {cl : List (Str × Addr)} {outer : List Env} {A₀ : Around} {base h₀ : Heap} {L : Addr} {m : Names} {news : Led} {s : Shared} {Q E : Value → Shared → Prop}
    (B : Below A₀ base outer h₀) (F : Fr h₀ L s.heap m) (X : (hd.heap_1 w.params).In h₀) (N : News h₀ L s.heap news) (T : Top p loose mean mg mb h₀) (hk : cs.kind = .function) (hd : dp + lv < recursionLimit) (hu : un + 8 * lv < cLine) (me : Mem news)
    (ret : ∀ (D : Addr) (t u : Tok) (h' : Heap) (tk' : Nat), Fr h₀ L h' m → News h₀ L h' ((D, tup2 x y t u) :: news) → Q (.ref D) { s with heap := h', toks := tk' }) :
    wpAny (model pw w) (ktrTop dp un gd cn cs L a ccd cl outer) (call (.ref f) vs) Q E s := C _ _ _ _ _ _ _ _ _ _ _ _ _ _ _ _ _ _ _ _ _ _ _ B F X N T hk hd hu me ret
section
variable {h₀ h' : Heap} {L D : Addr} {m : Names} {news : Led} {s : Shared} {Q : Value → Shared → Prop} {t u : Tok} {tk' : Nat}
theorem end2 {x y x' y' : Int} (hret : ∀ (D : Addr) (t u : Tok) (h' : Heap) (tk' : Nat), Fr h₀ L h' m → News h₀ L h' ((D, tup2 x y t u) :: news) → Q (.ref D) { s with heap := h', toks := tk' }) (e1 : x' = x) (e2 : y' = y)
    (F : Fr h₀ L h' m) (N : News h₀ L h' ((D, tup2 x' y' t u) :: news)) : Q (.ref D) { s with heap := h', toks := tk' } := by
  subst e1 e2
  exact hret D t u h' tk' F N
end
local macro_rules | `(tactic| walk_at "call builtin:min") => `(tactic| (k_here; k_dflt (refine' min_two_N ?hh ?F ?N ?_; (case hh => rfl); (case F => k_asm); (case N => k_asm)); intro h' tk' F' N'; (rename (_ = ite (_ < _) _ _) => hq'); rw [← hq']))
local macro_rules | `(tactic| walk_at "mine end2") => `(tactic| (refine' end2 ?kh ?e1 ?e2 ?kF ?kN; (case kh => assumption); (case kF => assumption); (case kN => exact keep1 (by assumption))))
local macro_rules | `(tactic| k_mem) => `(tactic| with_reducible first | assumption | exact List.mem_cons_of_mem _ (by assumption) | exact List.mem_cons_of_mem _ (List.mem_cons_of_mem _ (by assumption)))
theorem side1 {s m p st : Int} (h : s = 1) : -(m * 2 ^ (p - st).toNat) = sideF s m p st := (if_pos h).symm
theorem side2 {s m p st : Int} (h : s ≠ 1) : m * 2 ^ (p - st).toNat = sideF s m p st := (if_neg h).symm
theorem add_eq {a b c d : Int} (h : a = c) (k : b = d) : a + b = c + d := by rw [h, k]
theorem partE_rng (a : Int) : 0 ≤ partE a ∧ partE a ≤ 2047 := bitAnd_range _ (by decide)
theorem partP_lo (a : Int) : -1074 ≤ partP a := by
  have := partE_rng a
  unfold partP
  split <;> omega
theorem partP_hi (a : Int) : partP a ≤ 1000 := by
  have := partE_rng a
  unfold partP
  split <;> omega
theorem partM_rng (a : Int) : 0 ≤ partM a ∧ partM a < 2 ^ 54 := by
  have h1 := bitAnd_range a (show (0 : Int) ≤ 4503599627370495 by decide)
  have h2 := bitAnd_range (Builtin.bitAnd a 4503599627370495) (show (0 : Int) ≤ 4503599627370496 by decide)
  unfold partM
  split
  · omega
  · rw [bitOr_and]
    omega
theorem partM_bits (a : Int) : bits (partM a) ≤ 60 := Nat.le_trans ((bits_le (partM_rng a).1).mpr (partM_rng a).2) (by decide)
theorem summed_ct (D1 D2 : Addr) (s1 m1 p1 s2 m2 p2 : Int) (t1 t2 t3 u1 u2 u3 : Tok) (b1 : bits m1 ≤ 60) (b2 : bits m2 ≤ 60) (l1 : -1074 ≤ p1) (l2 : p1 ≤ 1000) (l3 : -1074 ≤ p2) (l4 : p2 ≤ 1000) :
    Ct2 w 1 456 [.ref D1, .ref D2] (fun news => (D1, tup3 s1 m1 p1 t1 t2 t3) ∈ news ∧ (D2, tup3 s2 m2 p2 u1 u2 u3) ∈ news) (sideF s1 m1 p1 (stepF p1 p2) + sideF s2 m2 p2 (stepF p1 p2)) (stepF p1 p2) := by
  obtain ⟨st, hst⟩ : ∃ st, st = stepF p1 p2 := ⟨_, rfl⟩
  have hst' : st = (if p2 < p1 then p2 else p1) := hst
  have hb : 0 ≤ p1 - st ∧ 0 ≤ p2 - st ∧ p1 - st ≤ 3000 ∧ p2 - st ≤ 3000 := by rw [hst']; split <;> omega
  obtain ⟨g1, g2, g3, g4⟩ := hb
  have g5 : (bits m1 : Int) + (p1 - st) ≤ 2 ^ 27 := by omega
  have g6 : (bits m2 : Int) + (p2 - st) ≤ 2 ^ 27 := by omega
  rw [← hst]
  intro p loose mean mg mb dp un gd cn cs ad ccd cl outer A₀ base h₀ L m news s Q E B F X N T hk hd hu hme hret
  obtain ⟨hm1, hm2⟩ := hme
  refine wpAny_call ?_
  k_dflt ktr_enter
  k_steps
  all_goals walk_at "mine end2"
  all_goals with_reducible first
    | rfl
    | exact add_eq (side1 (by with_reducible assumption)) (side1 (by with_reducible assumption))
    | exact add_eq (side1 (by with_reducible assumption)) (side2 (by with_reducible assumption))
    | exact add_eq (side2 (by with_reducible assumption)) (side1 (by with_reducible assumption))
    | exact add_eq (side2 (by with_reducible assumption)) (side2 (by with_reducible assumption))
theorem summed_ab (a b : Int) (D1 D2 : Addr) (t1 t2 t3 u1 u2 u3 : Tok) :
    Ct2 w 1 456 [.ref D1, .ref D2] (fun news => (D1, tup3 (partS a) (partM a) (partP a) t1 t2 t3) ∈ news ∧ (D2, tup3 (partS b) (partM b) (partP b) u1 u2 u3) ∈ news) (totF a b) (stepF (partP a) (partP b)) :=
  summed_ct w D1 D2 _ _ _ _ _ _ t1 t2 t3 u1 u2 u3 (partM_bits a) (partM_bits b) (partP_lo a) (partP_hi a) (partP_lo b) (partP_hi b)
end
local macro_rules | `(tactic| walk_at "call ref") => `(tactic| ((with_reducible show wpAny _ _ (call (Value.ref 456) _) _ _ _); k_dflt (refine Ct2.use (summed_ab _ _ _ _ _ _ _ _ _ _ _) (by k_asm) (by k_asm) (by k_asm) (by k_asm) (by k_asm) (by first | exact rfl | assumption) (by ktr_room) (by ktr_units) (by exact ⟨List.Mem.tail _ (List.Mem.head _), List.Mem.head _⟩) ?_); intro D9 t9 u9 h9 tk9 F9 N9; (try dsimp only); (try k_fold)))

theorem stepF_rng (a b : Int) : -1074 ≤ stepF (partP a) (partP b) ∧ stepF (partP a) (partP b) ≤ 1000 := by
  have := partP_lo a
  have := partP_hi a
  have := partP_lo b
  have := partP_hi b
  unfold stepF
  split <;> omega
theorem sideF_bits {s m p st : Int} (hm : bits m ≤ 60) (h : (p - st).toNat ≤ 2100) : bits (sideF s m p st) ≤ 2180 := by
  unfold sideF
  split
  · exact intBits_neg_le (bits_shl _ (by omega))
  · exact bits_shl _ (by omega)
theorem totF_bits (a b : Int) : bits (totF a b) ≤ 2200 := by
  have h0 := stepF_rng a b
  have h1 := partP_hi a
  have h2 := partP_hi b
  refine Nat.le_trans (intBits_add_le (m := 2180) (n := 2180) (sideF_bits (partM_bits a) (by omega)) (sideF_bits (partM_bits b) (by omega))) (by decide)
section
variable {a b : Int}
theorem nb {x : Bool} (h : x = false) : ¬ x = true := by rw [h]; decide
theorem ad1 (h : isNan a = true) : 9221120237041090560 = addF a b := (if_pos (.inl h)).symm
theorem ad2 (h : isNan b = true) : 9221120237041090560 = addF a b := (if_pos (.inr h)).symm
theorem adn (h : isNan a = false) (k : isNan b = false) : ¬ (isNan a = true ∨ isNan b = true) := fun x => x.elim (nb h) (nb k)
theorem ad3 (h : isNan a = false) (k : isNan b = false) (i : isInf a = true) (j : isInf b = true) (e : a ≠ b) : 9221120237041090560 = addF a b := by
  unfold addF
  rw [if_neg (adn h k), if_pos i, if_pos ⟨j, e⟩]
theorem ad4 (h : isNan a = false) (k : isNan b = false) (i : isInf a = true) (e : a = b) : a = addF a b := by
  unfold addF
  rw [if_neg (adn h k), if_pos i, if_neg (fun x => x.2 e)]
theorem ad5 (h : isNan a = false) (k : isNan b = false) (i : isInf a = true) (j : isInf b = false) : a = addF a b := by
  unfold addF
  rw [if_neg (adn h k), if_pos i, if_neg (fun x => nb j x.1)]
theorem ad6 (h : isNan a = false) (k : isNan b = false) (i : isInf a = false) (j : isInf b = true) : b = addF a b := by
  unfold addF
  rw [if_neg (adn h k), if_neg (nb i), if_pos j]
theorem ad7 (h : isNan a = false) (k : isNan b = false) (i : isInf a = false) (j : isInf b = false) (y : isZero a = true) (z : isZero b = true) : Builtin.bitAnd a b = addF a b := by
  unfold addF
  rw [if_neg (adn h k), if_neg (nb i), if_neg (nb j), if_pos ⟨y, z⟩]
theorem ad8 (h : isNan a = false) (k : isNan b = false) (i : isInf a = false) (j : isInf b = false) (y : ¬ (isZero a = true ∧ isZero b = true)) : rsF (if totF a b < 0 then 1 else 0) (absI (totF a b)) (stepF (partP a) (partP b)) = addF a b := by
  unfold addF
  rw [if_neg (adn h k), if_neg (nb i), if_neg (nb j), if_neg y]
theorem ad9 (h : isNan a = false) (k : isNan b = false) (i : isInf a = false) (j : isInf b = false) (y : ¬ (isZero a = true ∧ isZero b = true)) (z : totF a b < 0) : rsF 1 (if totF a b < 0 then -totF a b else totF a b) (stepF (partP a) (partP b)) = addF a b := by
  rw [← ad8 h k i j y]
  show rsF 1 (absI (totF a b)) _ = rsF (if totF a b < 0 then 1 else 0) (absI (totF a b)) _
  rw [if_pos z]
theorem ad0 (h : isNan a = false) (k : isNan b = false) (i : isInf a = false) (j : isInf b = false) (y : ¬ (isZero a = true ∧ isZero b = true)) (z : ¬ totF a b < 0) : rsF 0 (if totF a b < 0 then -totF a b else totF a b) (stepF (partP a) (partP b)) = addF a b := by
  rw [← ad8 h k i j y]
  show rsF 0 (absI (totF a b)) _ = rsF (if totF a b < 0 then 1 else 0) (absI (totF a b)) _
  rw [if_neg z]
theorem ny {x y : Bool} (h : x = false) : ¬ (x = true ∧ y = true) := fun q => nb h q.1
theorem nz {x y : Bool} (h : y = false) : ¬ (x = true ∧ y = true) := fun q => nb h q.2
end
theorem add_ct (a b : Int) (t u : Tok) : Ct w 5 449 [.int a t, .int b u] (fun t => .int (addF a b) t) := by
  have g1 := abs_nn (totF a b)
  have g2 := abs_bits (totF_bits a b)
  have g3 : -2200 ≤ stepF (partP a) (partP b) := by have := stepF_rng a b; omega
  have g4 : stepF (partP a) (partP b) ≤ 2200 := by have := stepF_rng a b; omega
  walk_at "mine enter"
  k_steps
  all_goals walk_at "mine end"
  all_goals with_reducible first
    | exact ad1 (by with_reducible assumption)
    | exact ad2 (by with_reducible assumption)
    | exact ad3 (by with_reducible assumption) (by with_reducible assumption) (by with_reducible assumption) (by with_reducible assumption) (by with_reducible assumption)
    | exact ad4 (by with_reducible assumption) (by with_reducible assumption) (by with_reducible assumption) (by with_reducible assumption)
    | exact ad5 (by with_reducible assumption) (by with_reducible assumption) (by with_reducible assumption) (by with_reducible assumption)
    | exact ad6 (by with_reducible assumption) (by with_reducible assumption) (by with_reducible assumption) (by with_reducible assumption)
    | exact ad7 (by with_reducible assumption) (by with_reducible assumption) (by with_reducible assumption) (by with_reducible assumption) (by with_reducible assumption) (by with_reducible assumption)
    | exact ad9 (by with_reducible assumption) (by with_reducible assumption) (by with_reducible assumption) (by with_reducible assumption) (ny (by with_reducible assumption)) (by with_reducible assumption)
    | exact ad9 (by with_reducible assumption) (by with_reducible assumption) (by with_reducible assumption) (by with_reducible assumption) (nz (by with_reducible assumption)) (by with_reducible assumption)
    | exact ad0 (by with_reducible assumption) (by with_reducible assumption) (by with_reducible assumption) (by with_reducible assumption) (ny (by with_reducible assumption)) (by with_reducible assumption)
    | exact ad0 (by with_reducible assumption) (by with_reducible assumption) (by with_reducible assumption) (by with_reducible assumption) (nz (by with_reducible assumption)) (by with_reducible assumption)
local macro_rules | `(tactic| walk_at "call ref") => `(tactic| ((with_reducible show wpAny _ _ (call (Value.ref 449) _) _ _ _); k_dflt (refine' Ct.use (add_ct _ _ _ _ _) ?k1 ?k2 ?k3 ?k4 ?k5 ?kK ?kd ?ku ?_; (case k1 => k_asm); (case k2 => k_asm); (case k3 => k_asm); (case k4 => k_asm); (case k5 => k_asm); (case kK => first | exact rfl | assumption); (case kd => ktr_room); (case ku => ktr_units)); intro t9 h9 tk9 F9 N9; (try dsimp only); (try k_fold)))
theorem sub_ct (a b : Int) (t u : Tok) : Ct w 6 463 [.int a t, .int b u] (fun t => .int (subF a b) t) := by
  walk_at "mine enter"
  k_steps
  all_goals walk_at "mine end"
  all_goals exact rfl

theorem partS_rng {a : Int} (h0 : 0 ≤ a) (h1 : a < 18446744073709551616) : partS a = 0 ∨ partS a = 1 := by
  unfold partS
  rw [Int.fdiv_eq_ediv_of_nonneg _ (by decide)]
  omega
theorem xor_rng {a b : Int} (h : a = 0 ∨ a = 1) (k : b = 0 ∨ b = 1) : 0 ≤ Builtin.bitXor a b ∧ Builtin.bitXor a b ≤ 1 := by
  rcases h with rfl | rfl <;> rcases k with rfl | rfl <;> decide
theorem e63 (a : Int) : a.fdiv (2 ^ Int.toNat 63) = partS a := rfl
section
variable {a b : Int}
theorem ml1 (h : isNan a = true) : 9221120237041090560 = mulF a b := (if_pos (.inl h)).symm
theorem ml2 (h : isNan b = true) : 9221120237041090560 = mulF a b := (if_pos (.inr h)).symm
theorem ml3 (h : isNan a = false) (k : isNan b = false) (i : isInf a = true ∨ isInf b = true) (j : isZero a = true ∨ isZero b = true) : 9221120237041090560 = mulF a b := by
  unfold mulF
  rw [if_neg (adn h k), if_pos i, if_pos j]
theorem ml4 (h : isNan a = false) (k : isNan b = false) (i : isInf a = true ∨ isInf b = true) (y : isZero a = false) (z : isZero b = false) : signedF (Builtin.bitXor (a.fdiv (2 ^ Int.toNat 63)) (b.fdiv (2 ^ Int.toNat 63))) 9218868437227405312 = mulF a b := by
  rw [e63, e63]
  unfold mulF
  rw [if_neg (adn h k), if_pos i, if_neg (fun x => x.elim (nb y) (nb z))]
theorem ml5 (h : isNan a = false) (k : isNan b = false) (i : isInf a = false) (j : isInf b = false) : rsF (Builtin.bitXor (a.fdiv (2 ^ Int.toNat 63)) (b.fdiv (2 ^ Int.toNat 63))) (partM a * partM b) (partP a + partP b) = mulF a b := by
  rw [e63, e63]
  unfold mulF
  rw [if_neg (adn h k), if_neg (fun x => x.elim (nb i) (nb j))]
end
theorem mul_ct (a b : Int) (t u : Tok) (ha : 0 ≤ a) (ha' : a < 18446744073709551616) (hb : 0 ≤ b) (hb' : b < 18446744073709551616) : Ct w 5 470 [.int a t, .int b u] (fun t => .int (mulF a b) t) := by
  have hs := xor_rng (partS_rng ha ha') (partS_rng hb hb')
  have g1 : 0 ≤ Builtin.bitXor (a.fdiv (2 ^ Int.toNat 63)) (b.fdiv (2 ^ Int.toNat 63)) := hs.1
  have g2 : Builtin.bitXor (a.fdiv (2 ^ Int.toNat 63)) (b.fdiv (2 ^ Int.toNat 63)) ≤ 1 := hs.2
  have g3 : 0 ≤ partM a * partM b := Int.mul_nonneg (partM_rng a).1 (partM_rng b).1
  have g4 : bits (partM a * partM b) ≤ 2200 := Nat.le_trans (intBits_mul_le (partM_bits a) (partM_bits b)) (by decide)
  have g5 : -2200 ≤ partP a + partP b := by have := partP_lo a; have := partP_lo b; omega
  have g6 : partP a + partP b ≤ 2200 := by have := partP_hi a; have := partP_hi b; omega
  have m1 : IntMulOk (partM a) (partM b) := IntMulOk.of_left (Nat.le_trans (partM_bits a) (by decide))
  walk_at "mine enter"
  k_steps
  all_goals walk_at "mine end"
  all_goals with_reducible first
    | exact ml1 (by with_reducible assumption)
    | exact ml2 (by with_reducible assumption)
    | exact ml3 (by with_reducible assumption) (by with_reducible assumption) (.inl (by with_reducible assumption)) (.inl (by with_reducible assumption))
    | exact ml3 (by with_reducible assumption) (by with_reducible assumption) (.inl (by with_reducible assumption)) (.inr (by with_reducible assumption))
    | exact ml3 (by with_reducible assumption) (by with_reducible assumption) (.inr (by with_reducible assumption)) (.inl (by with_reducible assumption))
    | exact ml3 (by with_reducible assumption) (by with_reducible assumption) (.inr (by with_reducible assumption)) (.inr (by with_reducible assumption))
    | exact ml4 (by with_reducible assumption) (by with_reducible assumption) (.inl (by with_reducible assumption)) (by with_reducible assumption) (by with_reducible assumption)
    | exact ml4 (by with_reducible assumption) (by with_reducible assumption) (.inr (by with_reducible assumption)) (by with_reducible assumption) (by with_reducible assumption)
    | exact ml5 (by with_reducible assumption) (by with_reducible assumption) (by with_reducible assumption) (by with_reducible assumption)
section
variable {a : Int}
theorem tf1 (h : 0 ≤ partP a) (k : partS a = 1) : -(partM a * 2 ^ (partP a).toNat) = toF a := by
  unfold toF
  rw [if_pos h]
  exact (if_pos k).symm
theorem tf2 (h : 0 ≤ partP a) (k : partS a ≠ 1) : partM a * 2 ^ (partP a).toNat = toF a := by
  unfold toF
  rw [if_pos h]
  exact (if_neg k).symm
theorem tf3 (h : ¬ 0 ≤ partP a) (k : partS a = 1) : -(partM a).fdiv (2 ^ (-partP a).toNat) = toF a := by
  unfold toF
  rw [if_neg h]
  exact (if_pos k).symm
theorem tf4 (h : ¬ 0 ≤ partP a) (k : partS a ≠ 1) : (partM a).fdiv (2 ^ (-partP a).toNat) = toF a := by
  unfold toF
  rw [if_neg h]
  exact (if_neg k).symm
end
theorem toF_ct (a : Int) (t : Tok) (hf : isFin a = true) : Ct w 2 246 [.int a t] (fun t => .int (toF a) t) := by
  have g1 : (bits (partM a) : Int) + partP a ≤ 2 ^ 27 := by have := partM_bits a; have := partP_hi a; omega
  have hz : ¬ 0 ≤ partP a → 0 ≤ -partP a := by omega
  walk_at "mine enter"
  k_steps
  all_goals walk_at "mine end"
  all_goals with_reducible first
    | exact tf1 (by with_reducible assumption) (by with_reducible assumption)
    | exact tf2 (by with_reducible assumption) (by with_reducible assumption)
    | exact tf3 (by with_reducible assumption) (by with_reducible assumption)
    | exact tf4 (by with_reducible assumption) (by with_reducible assumption)
section
variable {a : Int}
theorem u1 (h : isFin a = true) : (toF a).fmod 4294967296 = u32F a := (if_pos h).symm
theorem u2 (h : isFin a = false) : 0 = u32F a := (if_neg (nb h)).symm
theorem i1 (h : 2147483648 ≤ u32F a) : u32F a - 4294967296 = i32F a := (if_pos h).symm
theorem i2 (h : ¬ 2147483648 ≤ u32F a) : u32F a = i32F a := (if_neg h).symm
end
local macro_rules | `(tactic| walk_at "call ref") => `(tactic| ((with_reducible show wpAny _ _ (call (Value.ref 246) _) _ _ _); k_dflt (refine' Ct.use (toF_ct _ _ _ ?p0) ?k1 ?k2 ?k3 ?k4 ?k5 ?kK ?kd ?ku ?_; (case k1 => k_asm); (case k2 => k_asm); (case k3 => k_asm); (case k4 => k_asm); (case k5 => k_asm); (case kK => first | exact rfl | assumption); (case p0 => walk_at "mine pre"); (case kd => ktr_room); (case ku => ktr_units)); intro t9 h9 tk9 F9 N9; (try dsimp only); (try k_fold)))
theorem u32_ct (a : Int) (t : Tok) : Ct w 3 561 [.int a t] (fun t => .int (u32F a) t) := by
  walk_at "mine enter"
  k_steps
  all_goals walk_at "mine end"
  all_goals with_reducible first
    | exact u1 (by with_reducible assumption)
    | exact u2 (by with_reducible assumption)
local macro_rules | `(tactic| walk_at "call ref") => `(tactic| ((with_reducible show wpAny _ _ (call (Value.ref 561) _) _ _ _); k_dflt (refine' Ct.use (u32_ct _ _ _) ?k1 ?k2 ?k3 ?k4 ?k5 ?kK ?kd ?ku ?_; (case k1 => k_asm); (case k2 => k_asm); (case k3 => k_asm); (case k4 => k_asm); (case k5 => k_asm); (case kK => first | exact rfl | assumption); (case kd => ktr_room); (case ku => ktr_units)); intro t9 h9 tk9 F9 N9; (try dsimp only); (try k_fold)))
theorem i32_ct (a : Int) (t : Tok) : Ct w 4 568 [.int a t] (fun t => .int (i32F a) t) := by
  walk_at "mine enter"
  k_steps
  all_goals walk_at "mine end"
  all_goals with_reducible first
    | exact i1 (by with_reducible assumption)
    | exact i2 (by with_reducible assumption)
section

/- Calls that give back a new object of a known make. -/
def CtO (w : World) (lv : Nat) (f : Addr) (vs : List Value) (mk : Tok → Tok → Obj) : Prop :=
  ∀ (p : Program) (loose : List Str) (mean : ExcName → Option Value) (mg mb : Names) (dp un : Nat) (gd : Option (List Code)) (cn : Str) (cs : Scope) (a : Addr) (ccd : Value) (cl : List (Str × Addr)) (outer : List Env) (A₀ : Around) (base h₀ : Heap) (L : Addr) (m : Names) (news : Led) (s : Shared) (Q E : Value → Shared → Prop),
    Below A₀ base outer h₀ → Fr h₀ L s.heap m → (hd.heap_1 w.params).In h₀ → News h₀ L s.heap news → Top p loose mean mg mb h₀ → cs.kind = .function → dp + lv < recursionLimit → un + 8 * lv < cLine →
    (∀ (D : Addr) (t u : Tok) (h' : Heap) (tk' : Nat), Fr h₀ L h' m → News h₀ L h' ((D, mk t u) :: news) → Q (.ref D) { s with heap := h', toks := tk' }) →
    wpAny (model pw w) (ktrTop dp un gd cn cs L a ccd cl outer) (call (.ref f) vs) Q E s
theorem CtO.use {w : World} {lv : Nat} {f : Addr} {vs : List Value} {mk : Tok → Tok → Obj} (C : CtO w lv f vs mk) {p : Program} {loose : List Str} {mean : ExcName → Option Value} {mg mb : Names} {dp un : Nat} {gd : Option (List Code)} {cn : Str} {cs : Scope} {a : Addr} {ccd : Value} {cl : List (Str × Addr)} {outer : List Env} {A₀ : Around} {base h₀ : Heap} {L : Addr} {m : Names} {news : Led} {s : Shared} {Q E : Value → Shared → Prop}
    (B : Below A₀ base outer h₀) (F : Fr h₀ L s.heap m) (X : (hd.heap_1 w.params).In h₀) (N : News h₀ L s.heap news) (T : Top p loose mean mg mb h₀) (hk : cs.kind = .function) (hd : dp + lv < recursionLimit) (hu : un + 8 * lv < cLine)
    (ret : ∀ (D : Addr) (t u : Tok) (h' : Heap) (tk' : Nat), Fr h₀ L h' m → News h₀ L h' ((D, mk t u) :: news) → Q (.ref D) { s with heap := h', toks := tk' }) :
    wpAny (model pw w) (ktrTop dp un gd cn cs L a ccd cl outer) (call (.ref f) vs) Q E s := C _ _ _ _ _ _ _ _ _ _ _ _ _ _ _ _ _ _ _ _ _ _ _ B F X N T hk hd hu ret
abbrev tupB (b : Bool) (x : Int) (t _u : Tok) : Obj := { cls := .type "tuple", data := .seq #[.bool b, .int x t] }
section
variable {h₀ h' : Heap} {L D : Addr} {m : Names} {news : Led} {s : Shared} {Q : Value → Shared → Prop} {t u : Tok} {tk' : Nat}
theorem endO2 {x y x' y' : Int} (hret : ∀ (D : Addr) (t u : Tok) (h' : Heap) (tk' : Nat), Fr h₀ L h' m → News h₀ L h' ((D, tup2 x y t u) :: news) → Q (.ref D) { s with heap := h', toks := tk' }) (e1 : x' = x) (e2 : y' = y)
    (F : Fr h₀ L h' m) (N : News h₀ L h' ((D, tup2 x' y' t u) :: news)) : Q (.ref D) { s with heap := h', toks := tk' } := by
  subst e1 e2
  exact hret D t u h' tk' F N
theorem endOB {b b' : Bool} {x x' : Int} (hret : ∀ (D : Addr) (t u : Tok) (h' : Heap) (tk' : Nat), Fr h₀ L h' m → News h₀ L h' ((D, tupB b x t u) :: news) → Q (.ref D) { s with heap := h', toks := tk' }) (e1 : b' = b) (e2 : x' = x)
    (F : Fr h₀ L h' m) (N : News h₀ L h' ((D, tupB b' x' t 0) :: news)) : Q (.ref D) { s with heap := h', toks := tk' } := by
  subst e1 e2
  exact hret D t 0 h' tk' F N
theorem endN (hret : ∀ (t : Tok) (h' : Heap) (tk' : Nat), Fr h₀ L h' m → News h₀ L h' news → Q .none { s with heap := h', toks := tk' }) (F : Fr h₀ L h' m) (N : News h₀ L h' news) : Q .none { s with heap := h', toks := tk' } := hret 0 h' tk' F N
end
theorem keep2 {h₀ h : Heap} {L : Addr} {x y z : Addr × Obj} {l : Led} (N : News h₀ L h (x :: y :: z :: l)) : News h₀ L h (x :: l) := keep1 (keep1 N)
local macro_rules | `(tactic| walk_at "mine endO") => `(tactic| first | (refine' endO2 ?kh ?e1 ?e2 ?kF ?kN; (case kh => assumption); (case kF => assumption); (case kN => first | assumption | exact keep1 (by assumption) | exact keep2 (by assumption))) | (refine' endOB ?kh ?e1 ?e2 ?kF ?kN; (case kh => assumption); (case kF => assumption); (case kN => first | assumption | exact keep1 (by assumption) | exact keep2 (by assumption))) | (refine' endN ?kh ?kF ?kN; (case kh => assumption); (case kF => assumption); (case kN => first | assumption | exact drop1 (by assumption) | exact drop2 (by assumption) | exact drop3 (by assumption) | exact drop4 (by assumption))))
local macro_rules | `(tactic| k_room) => `(tactic| ((try simp only [depth_under_make, depth_under_kw, depth_in1, depth_deeper, depth_caller]); (try dsimp only [ktrTop]); omega))
local macro_rules | `(tactic| walk_at "ite") => `(tactic| (k_closed; k_dflt (first | refine ite_pos (by decide +kernel) ?_ | refine ite_neg (by decide +kernel) ?_)))
local macro_rules | `(tactic| walk_at "leaving ref") => `(tactic| (exfalso; (rename (_ ∨ _) => hx9); exact absurd hx9 (by decide +kernel)))
theorem offlt {l : Led} {I : Addr} (h : ∀ p ∈ l, p.1 < I) : ∀ p ∈ l, p.1 ≠ I := fun p hp => Nat.ne_of_lt (h p hp)
local macro_rules | `(tactic| walk_at "UnrEnd") => `(tactic| (refine UnrEnd.intro (by assumption) (by assumption) _ (fun _ hp => hp) (offlt (by assumption)) ?_))
theorem trim0_ct (s0 : Str) (t0 : Tok) (h0 : s0 = Str.ofString "") : Ct w 4 267 [.str s0 t0] (fun t => .str (Str.ofString "") t) := by
  subst h0
  walk_at "mine enter"
  k_steps
  all_goals walk_at "mine end"
  all_goals first | rfl | decide +kernel
theorem trimx_ct (s0 : Str) (t0 : Tok) (h0 : s0 = Str.ofString "x") : Ct w 4 267 [.str s0 t0] (fun t => .str (Str.ofString "x") t) := by
  subst h0
  walk_at "mine enter"
  k_steps
  all_goals walk_at "mine end"
  all_goals first | rfl | decide +kernel
theorem trim12_ct (s0 : Str) (t0 : Tok) (h0 : s0 = Str.ofString "12") : Ct w 4 267 [.str s0 t0] (fun t => .str (Str.ofString "12") t) := by
  subst h0
  walk_at "mine enter"
  k_steps
  all_goals walk_at "mine end"
  all_goals first | rfl | decide +kernel
theorem run12_ct (s0 : Str) (n1 : Int) (n2 : Int) (t0 t1 t2 : Tok) (h0 : s0 = Str.ofString "12") (h1 : n1 = 0) (h2 : n2 = 10) : Ct w 4 281 [.str s0 t0, .int n1 t1, .int n2 t2] (fun t => .int 2 t) := by
  subst h0 h1 h2
  walk_at "mine enter"
  k_steps
  all_goals walk_at "mine end"
  all_goals first | rfl | decide +kernel
theorem runx_ct (s0 : Str) (n1 : Int) (n2 : Int) (t0 t1 t2 : Tok) (h0 : s0 = Str.ofString "x") (h1 : n1 = 0) (h2 : n2 = 10) : Ct w 4 281 [.str s0 t0, .int n1 t1, .int n2 t2] (fun t => .int 0 t) := by
  subst h0 h1 h2
  walk_at "mine enter"
  k_steps
  all_goals walk_at "mine end"
  all_goals first | rfl | decide +kernel
theorem sign12_ct (s0 : Str) (n1 : Int) (t0 t1 : Tok) (h0 : s0 = Str.ofString "12") (h1 : n1 = 0) : CtO w 3 302 [.str s0 t0, .int n1 t1] (tupB false 0) := by
  subst h0 h1
  walk_at "mine enter"
  k_steps
  all_goals walk_at "mine endO"
  all_goals first | rfl | decide +kernel
theorem signx_ct (s0 : Str) (n1 : Int) (t0 t1 : Tok) (h0 : s0 = Str.ofString "x") (h1 : n1 = 0) : CtO w 3 302 [.str s0 t0, .int n1 t1] (tupB false 0) := by
  subst h0 h1
  walk_at "mine enter"
  k_steps
  all_goals walk_at "mine endO"
  all_goals first | rfl | decide +kernel
theorem exp12_ct (s0 : Str) (n1 : Int) (t0 t1 : Tok) (h0 : s0 = Str.ofString "12") (h1 : n1 = 2) : CtO w 3 316 [.str s0 t0, .int n1 t1] (tup2 0 2) := by
  subst h0 h1
  walk_at "mine enter"
  k_steps
  all_goals walk_at "mine endO"
  all_goals first | rfl | decide +kernel
theorem worth12_ct (s0 : Str) (n1 : Int) (n2 : Int) (n3 : Int) (t0 t1 t2 t3 : Tok) (h0 : s0 = Str.ofString "12") (h1 : n1 = 0) (h2 : n2 = 2) (h3 : n3 = 10) : Ct w 4 288 [.str s0 t0, .int n1 t1, .int n2 t2, .int n3 t3] (fun t => .int 12 t) := by
  subst h0 h1 h2 h3
  walk_at "mine enter"
  k_steps
  all_goals walk_at "mine end"
  all_goals first | rfl | decide +kernel
local macro_rules | `(tactic| walk_at "call ref") => `(tactic| ((with_reducible show wpAny _ _ (call (Value.ref 218) _) _ _ _); k_dflt (refine' Ct.use (rr_ct _ _ _ _ _ _ _ ?p0 ?p1 ?p2 ?p3 ?p4 ?p5) ?k1 ?k2 ?k3 ?k4 ?k5 ?kK ?kd ?ku ?_; (case k1 => k_asm); (case k2 => k_asm); (case k3 => k_asm); (case k4 => k_asm); (case k5 => k_asm); (case kK => first | exact rfl | assumption); (case p0 => first | with_reducible assumption | decide +kernel); (case p1 => first | with_reducible assumption | decide +kernel); (case p2 => first | with_reducible assumption | decide +kernel); (case p3 => first | with_reducible assumption | decide +kernel); (case p4 => first | with_reducible assumption | decide +kernel); (case p5 => first | with_reducible assumption | decide +kernel); (case kd => ktr_room); (case ku => ktr_units)); intro t9 h9 tk9 F9 N9; (try dsimp only); (try k_fold)))
local macro_rules | `(tactic| walk_at "call ref") => `(tactic| (k_here; k_dflt (refine' Ct.use (trim0_ct _ _ _ ?p0) ?k1 ?k2 ?k3 ?k4 ?k5 ?kK ?kd ?ku ?_; (case k1 => k_asm); (case k2 => k_asm); (case k3 => k_asm); (case k4 => k_asm); (case k5 => k_asm); (case kK => first | exact rfl | assumption); (case p0 => first | exact rfl | decide +kernel); (case kd => ktr_room); (case ku => ktr_units)); intro t9 h9 tk9 F9 N9; (try dsimp only); (try k_fold)))
local macro_rules | `(tactic| walk_at "call ref") => `(tactic| (k_here; k_dflt (refine' Ct.use (trimx_ct _ _ _ ?p0) ?k1 ?k2 ?k3 ?k4 ?k5 ?kK ?kd ?ku ?_; (case k1 => k_asm); (case k2 => k_asm); (case k3 => k_asm); (case k4 => k_asm); (case k5 => k_asm); (case kK => first | exact rfl | assumption); (case p0 => first | exact rfl | decide +kernel); (case kd => ktr_room); (case ku => ktr_units)); intro t9 h9 tk9 F9 N9; (try dsimp only); (try k_fold)))
local macro_rules | `(tactic| walk_at "call ref") => `(tactic| (k_here; k_dflt (refine' Ct.use (trim12_ct _ _ _ ?p0) ?k1 ?k2 ?k3 ?k4 ?k5 ?kK ?kd ?ku ?_; (case k1 => k_asm); (case k2 => k_asm); (case k3 => k_asm); (case k4 => k_asm); (case k5 => k_asm); (case kK => first | exact rfl | assumption); (case p0 => first | exact rfl | decide +kernel); (case kd => ktr_room); (case ku => ktr_units)); intro t9 h9 tk9 F9 N9; (try dsimp only); (try k_fold)))
local macro_rules | `(tactic| walk_at "call ref") => `(tactic| (k_here; k_dflt (refine' Ct.use (run12_ct _ _ _ _ _ _ _ ?p0 ?p1 ?p2) ?k1 ?k2 ?k3 ?k4 ?k5 ?kK ?kd ?ku ?_; (case k1 => k_asm); (case k2 => k_asm); (case k3 => k_asm); (case k4 => k_asm); (case k5 => k_asm); (case kK => first | exact rfl | assumption); (case p0 => first | exact rfl | decide +kernel); (case p1 => first | exact rfl | decide +kernel); (case p2 => first | exact rfl | decide +kernel); (case kd => ktr_room); (case ku => ktr_units)); intro t9 h9 tk9 F9 N9; (try dsimp only); (try k_fold)))
local macro_rules | `(tactic| walk_at "call ref") => `(tactic| (k_here; k_dflt (refine' Ct.use (runx_ct _ _ _ _ _ _ _ ?p0 ?p1 ?p2) ?k1 ?k2 ?k3 ?k4 ?k5 ?kK ?kd ?ku ?_; (case k1 => k_asm); (case k2 => k_asm); (case k3 => k_asm); (case k4 => k_asm); (case k5 => k_asm); (case kK => first | exact rfl | assumption); (case p0 => first | exact rfl | decide +kernel); (case p1 => first | exact rfl | decide +kernel); (case p2 => first | exact rfl | decide +kernel); (case kd => ktr_room); (case ku => ktr_units)); intro t9 h9 tk9 F9 N9; (try dsimp only); (try k_fold)))
local macro_rules | `(tactic| walk_at "call ref") => `(tactic| (k_here; k_dflt (refine' CtO.use (sign12_ct _ _ _ _ _ ?p0 ?p1) ?k1 ?k2 ?k3 ?k4 ?k5 ?kK ?kd ?ku ?_; (case k1 => k_asm); (case k2 => k_asm); (case k3 => k_asm); (case k4 => k_asm); (case k5 => k_asm); (case kK => first | exact rfl | assumption); (case p0 => first | exact rfl | decide +kernel); (case p1 => first | exact rfl | decide +kernel); (case kd => ktr_room); (case ku => ktr_units)); intro D9 t9 u9 h9 tk9 F9 N9; (try dsimp only); (try k_fold)))
local macro_rules | `(tactic| walk_at "call ref") => `(tactic| (k_here; k_dflt (refine' CtO.use (signx_ct _ _ _ _ _ ?p0 ?p1) ?k1 ?k2 ?k3 ?k4 ?k5 ?kK ?kd ?ku ?_; (case k1 => k_asm); (case k2 => k_asm); (case k3 => k_asm); (case k4 => k_asm); (case k5 => k_asm); (case kK => first | exact rfl | assumption); (case p0 => first | exact rfl | decide +kernel); (case p1 => first | exact rfl | decide +kernel); (case kd => ktr_room); (case ku => ktr_units)); intro D9 t9 u9 h9 tk9 F9 N9; (try dsimp only); (try k_fold)))
local macro_rules | `(tactic| walk_at "call ref") => `(tactic| (k_here; k_dflt (refine' CtO.use (exp12_ct _ _ _ _ _ ?p0 ?p1) ?k1 ?k2 ?k3 ?k4 ?k5 ?kK ?kd ?ku ?_; (case k1 => k_asm); (case k2 => k_asm); (case k3 => k_asm); (case k4 => k_asm); (case k5 => k_asm); (case kK => first | exact rfl | assumption); (case p0 => first | exact rfl | decide +kernel); (case p1 => first | exact rfl | decide +kernel); (case kd => ktr_room); (case ku => ktr_units)); intro D9 t9 u9 h9 tk9 F9 N9; (try dsimp only); (try k_fold)))
local macro_rules | `(tactic| walk_at "call ref") => `(tactic| (k_here; k_dflt (refine' Ct.use (worth12_ct _ _ _ _ _ _ _ _ _ ?p0 ?p1 ?p2 ?p3) ?k1 ?k2 ?k3 ?k4 ?k5 ?kK ?kd ?ku ?_; (case k1 => k_asm); (case k2 => k_asm); (case k3 => k_asm); (case k4 => k_asm); (case k5 => k_asm); (case kK => first | exact rfl | assumption); (case p0 => first | exact rfl | decide +kernel); (case p1 => first | exact rfl | decide +kernel); (case p2 => first | exact rfl | decide +kernel); (case p3 => first | exact rfl | decide +kernel); (case kd => ktr_room); (case ku => ktr_units)); intro t9 h9 tk9 F9 N9; (try dsimp only); (try k_fold)))
theorem fromdec12_ct (s0 : Str) (n1 : Int) (t0 t1 : Tok) (h0 : s0 = Str.ofString "12") (h1 : n1 = 0) : Ct w 5 295 [.str s0 t0, .int n1 t1] (fun t => .int (fromF 12) t) := by
  subst h0 h1
  walk_at "mine enter"
  k_steps
  all_goals walk_at "mine end"
  all_goals first | rfl | decide +kernel
local macro_rules | `(tactic| walk_at "call ref") => `(tactic| ((with_reducible show wpAny _ _ (call (Value.ref 295) _) _ _ _); k_dflt (refine' Ct.use (fromdec12_ct _ _ _ _ _ ?p0 ?p1) ?k1 ?k2 ?k3 ?k4 ?k5 ?kK ?kd ?ku ?_; (case k1 => k_asm); (case k2 => k_asm); (case k3 => k_asm); (case k4 => k_asm); (case k5 => k_asm); (case kK => first | exact rfl | assumption); (case p0 => first | exact rfl | decide +kernel); (case p1 => first | exact rfl | decide +kernel); (case kd => ktr_room); (case ku => ktr_units)); intro t9 h9 tk9 F9 N9; (try dsimp only); (try k_fold)))
theorem dec12_ct (s0 : Str) (n1 : Int) (t0 t1 : Tok) (h0 : s0 = Str.ofString "12") (h1 : n1 = 0) : CtO w 6 323 [.str s0 t0, .int n1 t1] (tup2 (fromF 12) 2) := by
  subst h0 h1
  walk_at "mine enter"
  k_steps
  all_goals walk_at "mine endO"
  all_goals first | rfl | decide +kernel
local macro_rules | `(tactic| walk_at "call ref") => `(tactic| ((with_reducible show wpAny _ _ (call (Value.ref 323) _) _ _ _); k_dflt (refine' CtO.use (dec12_ct _ _ _ _ _ ?p0 ?p1) ?k1 ?k2 ?k3 ?k4 ?k5 ?kK ?kd ?ku ?_; (case k1 => k_asm); (case k2 => k_asm); (case k3 => k_asm); (case k4 => k_asm); (case k5 => k_asm); (case kK => first | exact rfl | assumption); (case p0 => first | exact rfl | decide +kernel); (case p1 => first | exact rfl | decide +kernel); (case kd => ktr_room); (case ku => ktr_units)); intro D9 t9 u9 h9 tk9 F9 N9; (try dsimp only); (try k_fold)))
theorem decx_ct (s0 : Str) (n1 : Int) (t0 t1 : Tok) (h0 : s0 = Str.ofString "x") (h1 : n1 = 0) : Ct w 6 323 [.str s0 t0, .int n1 t1] (fun _ => .none) := by
  subst h0 h1
  walk_at "mine enter"
  k_steps
  all_goals walk_at "mine endO"
local macro_rules | `(tactic| walk_at "call ref") => `(tactic| ((with_reducible show wpAny _ _ (call (Value.ref 323) _) _ _ _); k_dflt (refine' Ct.use (decx_ct _ _ _ _ _ ?p0 ?p1) ?k1 ?k2 ?k3 ?k4 ?k5 ?kK ?kd ?ku ?_; (case k1 => k_asm); (case k2 => k_asm); (case k3 => k_asm); (case k4 => k_asm); (case k5 => k_asm); (case kK => first | exact rfl | assumption); (case p0 => first | exact rfl | decide +kernel); (case p1 => first | exact rfl | decide +kernel); (case kd => ktr_room); (case ku => ktr_units)); intro t9 h9 tk9 F9 N9; (try dsimp only); (try k_fold)))
theorem text0_ct (s0 : Str) (t0 : Tok) (h0 : s0 = Str.ofString "") : Ct w 7 330 [.str s0 t0] (fun t => .int 0 t) := by
  subst h0
  walk_at "mine enter"
  k_steps
  all_goals walk_at "mine end"
  all_goals first | rfl | decide +kernel
theorem textx_ct (s0 : Str) (t0 : Tok) (h0 : s0 = Str.ofString "x") : Ct w 7 330 [.str s0 t0] (fun t => .int 9221120237041090560 t) := by
  subst h0
  walk_at "mine enter"
  k_steps
  all_goals walk_at "mine end"
  all_goals first | rfl | decide +kernel
theorem text12_ct (s0 : Str) (t0 : Tok) (h0 : s0 = Str.ofString "12") : Ct w 7 330 [.str s0 t0] (fun t => .int (fromF 12) t) := by
  subst h0
  walk_at "mine enter"
  k_steps
  all_goals walk_at "mine end"
  all_goals first | rfl | decide +kernel
end
local macro_rules | `(tactic| walk_at "mine endO") => `(tactic| first | (refine' endO2 ?kh ?e1 ?e2 ?kF ?kN; (case kh => assumption); (case kF => assumption); (case kN => first | assumption | exact keep1 (by assumption) | exact keep2 (by assumption))) | (refine' endOB ?kh ?e1 ?e2 ?kF ?kN; (case kh => assumption); (case kF => assumption); (case kN => first | assumption | exact keep1 (by assumption) | exact keep2 (by assumption))) | (refine' endN ?kh ?kF ?kN; (case kh => assumption); (case kF => assumption); (case kN => first | assumption | exact drop1 (by assumption) | exact drop2 (by assumption) | exact drop3 (by assumption) | exact drop4 (by assumption))))
/- A plain value of the law: undefined, null, a truth, a number, a text. -/
inductive PV where
  | none
  | null
  | bool (b : Bool)
  | int (i : Int)
  | str (s : Str)
def PV.val : PV → Tok → Value
  | .none, _ => .none
  | .null, _ => .ref 37
  | .bool b, _ => .bool b
  | .int i, t => .int i t
  | .str s, t => .str s t
def IsV (v : Value) (p : PV) : Prop := ∃ t, v = p.val t
theorem isV_none : IsV .none .none := ⟨0, rfl⟩
theorem isV_null : IsV (.ref 37) .null := ⟨0, rfl⟩
theorem isV_bool {b : Bool} : IsV (.bool b) (.bool b) := ⟨0, rfl⟩
theorem isV_int {i : Int} {t : Tok} : IsV (.int i t) (.int i) := ⟨t, rfl⟩
theorem isV_str {s : Str} {t : Tok} : IsV (.str s t) (.str s) := ⟨t, rfl⟩
noncomputable section
def textF (s : Str) : Int := if s = Str.ofString "" then 0 else if s = Str.ofString "12" then fromF 12 else 9221120237041090560
def numF : PV → Int
  | .none => 9221120237041090560
  | .null => 0
  | .bool b => if b = true then 4607182418800017408 else 0
  | .int i => i
  | .str s => textF s
def truthF : PV → Bool
  | .none => false
  | .null => false
  | .bool b => b
  | .int i => !isZero i && !isNan i
  | .str s => !(s == Str.ofString "")
def typeF : PV → Str
  | .none => Str.ofString "undefined"
  | .null => Str.ofString "object"
  | .bool _ => Str.ofString "boolean"
  | .int _ => Str.ofString "number"
  | .str _ => Str.ofString "string"
end
def OkN : PV → Prop
  | .str s => s = Str.ofString "" ∨ s = Str.ofString "x" ∨ s = Str.ofString "12"
  | _ => True
def nullV : PV → Bool
  | .null => true
  | _ => false
def intV : PV → Bool
  | .int _ => true
  | _ => false
def strV : PV → Bool
  | .str _ => true
  | _ => false
theorem is_object_ct (v : Value) (p : PV) (h : IsV v p) : Ct w 1 106 [v] (fun _ => .bool false) := by
  obtain ⟨t, rfl⟩ := h
  cases p
  all_goals dsimp only [PV.val]
  all_goals walk_at "mine enter"
  all_goals k_steps
  all_goals walk_at "mine end"
  all_goals rfl
theorem is_null_ct (v : Value) (p : PV) (h : IsV v p) : Ct w 1 85 [v] (fun _ => .bool (nullV p)) := by
  obtain ⟨t, rfl⟩ := h
  cases p
  all_goals dsimp only [PV.val]
  all_goals walk_at "mine enter"
  all_goals k_steps
  all_goals walk_at "mine end"
  all_goals rfl
theorem is_number_ct (v : Value) (p : PV) (h : IsV v p) : Ct w 1 92 [v] (fun _ => .bool (intV p)) := by
  obtain ⟨t, rfl⟩ := h
  cases p
  all_goals dsimp only [PV.val]
  all_goals walk_at "mine enter"
  all_goals k_steps
  all_goals walk_at "mine end"
  all_goals rfl
theorem is_text_ct (v : Value) (p : PV) (h : IsV v p) : Ct w 1 99 [v] (fun _ => .bool (strV p)) := by
  obtain ⟨t, rfl⟩ := h
  cases p
  all_goals dsimp only [PV.val]
  all_goals walk_at "mine enter"
  all_goals k_steps
  all_goals walk_at "mine end"
  all_goals rfl
section
variable {h₀ h' : Heap} {L : Addr} {m : Names} {news : Led} {s : Shared} {Q : Value → Shared → Prop} {tk' : Nat}
theorem endV {v : Value} (hret : ∀ (t : Tok) (h' : Heap) (tk' : Nat), Fr h₀ L h' m → News h₀ L h' news → Q v { s with heap := h', toks := tk' }) (F : Fr h₀ L h' m) (N : News h₀ L h' news) : Q v { s with heap := h', toks := tk' } := hret 0 h' tk' F N
end
local macro_rules | `(tactic| walk_at "mine endV") => `(tactic| (refine' endV ?kh ?kF ?kN; (case kh => assumption); (case kF => assumption); (case kN => assumption)))
local macro_rules | `(tactic| walk_at "call ref") => `(tactic| ((with_reducible show wpAny _ _ (call (Value.ref 106) _) _ _ _); k_dflt (refine Ct.use (is_object_ct _ _ _ (by first | assumption | exact isV_int | exact isV_bool | exact isV_str | exact isV_none | exact isV_null)) (by k_asm) (by k_asm) (by k_asm) (by k_asm) (by k_asm) (by first | exact rfl | assumption) (by ktr_room) (by ktr_units) ?_); intro t9 h9 tk9 F9 N9; (try dsimp only [nullV, intV, strV]); (try k_fold)))
local macro_rules | `(tactic| walk_at "call ref") => `(tactic| ((with_reducible show wpAny _ _ (call (Value.ref 85) _) _ _ _); k_dflt (refine Ct.use (is_null_ct _ _ _ (by first | assumption | exact isV_int | exact isV_bool | exact isV_str | exact isV_none | exact isV_null)) (by k_asm) (by k_asm) (by k_asm) (by k_asm) (by k_asm) (by first | exact rfl | assumption) (by ktr_room) (by ktr_units) ?_); intro t9 h9 tk9 F9 N9; (try dsimp only [nullV, intV, strV]); (try k_fold)))
local macro_rules | `(tactic| walk_at "call ref") => `(tactic| ((with_reducible show wpAny _ _ (call (Value.ref 92) _) _ _ _); k_dflt (refine Ct.use (is_number_ct _ _ _ (by first | assumption | exact isV_int | exact isV_bool | exact isV_str | exact isV_none | exact isV_null)) (by k_asm) (by k_asm) (by k_asm) (by k_asm) (by k_asm) (by first | exact rfl | assumption) (by ktr_room) (by ktr_units) ?_); intro t9 h9 tk9 F9 N9; (try dsimp only [nullV, intV, strV]); (try k_fold)))
local macro_rules | `(tactic| walk_at "call ref") => `(tactic| ((with_reducible show wpAny _ _ (call (Value.ref 99) _) _ _ _); k_dflt (refine Ct.use (is_text_ct _ _ _ (by first | assumption | exact isV_int | exact isV_bool | exact isV_str | exact isV_none | exact isV_null)) (by k_asm) (by k_asm) (by k_asm) (by k_asm) (by k_asm) (by first | exact rfl | assumption) (by ktr_room) (by ktr_units) ?_); intro t9 h9 tk9 F9 N9; (try dsimp only [nullV, intV, strV]); (try k_fold)))
theorem to_primitive_ct (v : Value) (p : PV) (h : IsV v p) (hint : Str) (t : Tok) : Ct w 2 428 [.none, v, .str hint t] (fun _ => v) := by
  walk_at "mine enter"
  k_steps
  all_goals walk_at "mine endV"
local macro_rules | `(tactic| k_room) => `(tactic| ((try simp only [depth_under_make, depth_under_kw, depth_in1, depth_deeper, depth_caller]); (try dsimp only [ktrTop]); omega))
local macro_rules | `(tactic| walk_at "call ref") => `(tactic| ((with_reducible show wpAny _ _ (call (Value.ref 330) _) _ _ _); k_dflt (refine' Ct.use (text0_ct _ _ _ ?p0) ?k1 ?k2 ?k3 ?k4 ?k5 ?kK ?kd ?ku ?_; (case k1 => k_asm); (case k2 => k_asm); (case k3 => k_asm); (case k4 => k_asm); (case k5 => k_asm); (case kK => first | exact rfl | assumption); (case p0 => first | exact rfl | decide +kernel); (case kd => ktr_room); (case ku => ktr_units)); intro t9 h9 tk9 F9 N9; (try dsimp only); (try k_fold)))
local macro_rules | `(tactic| walk_at "call ref") => `(tactic| ((with_reducible show wpAny _ _ (call (Value.ref 330) _) _ _ _); k_dflt (refine' Ct.use (textx_ct _ _ _ ?p0) ?k1 ?k2 ?k3 ?k4 ?k5 ?kK ?kd ?ku ?_; (case k1 => k_asm); (case k2 => k_asm); (case k3 => k_asm); (case k4 => k_asm); (case k5 => k_asm); (case kK => first | exact rfl | assumption); (case p0 => first | exact rfl | decide +kernel); (case kd => ktr_room); (case ku => ktr_units)); intro t9 h9 tk9 F9 N9; (try dsimp only); (try k_fold)))
local macro_rules | `(tactic| walk_at "call ref") => `(tactic| ((with_reducible show wpAny _ _ (call (Value.ref 330) _) _ _ _); k_dflt (refine' Ct.use (text12_ct _ _ _ ?p0) ?k1 ?k2 ?k3 ?k4 ?k5 ?kK ?kd ?ku ?_; (case k1 => k_asm); (case k2 => k_asm); (case k3 => k_asm); (case k4 => k_asm); (case k5 => k_asm); (case kK => first | exact rfl | assumption); (case p0 => first | exact rfl | decide +kernel); (case kd => ktr_room); (case ku => ktr_units)); intro t9 h9 tk9 F9 N9; (try dsimp only); (try k_fold)))
local macro_rules | `(tactic| walk_at "call ref") => `(tactic| ((with_reducible show wpAny _ _ (call (Value.ref 428) _) _ _ _); k_dflt (refine Ct.use (to_primitive_ct _ _ _ (by first | assumption | exact isV_int | exact isV_bool | exact isV_str | exact isV_none | exact isV_null) _ _) (by k_asm) (by k_asm) (by k_asm) (by k_asm) (by k_asm) (by first | exact rfl | assumption) (by ktr_room) (by ktr_units) ?_); intro t9 h9 tk9 F9 N9; (try dsimp only [nullV, intV, strV]); (try k_fold)))
theorem num0 : 0 = numF (.str (Str.ofString "")) := by
  show 0 = textF _
  unfold textF
  rw [if_pos rfl]
theorem num12 : fromF 12 = numF (.str (Str.ofString "12")) := by
  show _ = textF _
  unfold textF
  rw [if_neg (by decide), if_pos rfl]
theorem numx : 9221120237041090560 = numF (.str (Str.ofString "x")) := by
  show _ = textF _
  unfold textF
  rw [if_neg (by decide), if_neg (by decide)]
theorem tr1 {i : Int} (h : isZero i = true) : (!isZero i) = truthF (.int i) := by
  show (!isZero i) = (!isZero i && !isNan i)
  rw [h]
  rfl
theorem tr2 {i : Int} (h : isZero i = false) : (!isNan i) = truthF (.int i) := by
  show (!isNan i) = (!isZero i && !isNan i)
  rw [h]
  rfl
theorem truthy_ct (v : Value) (p : PV) (h : IsV v p) (ok : OkN p) : Ct w 2 407 [v] (fun _ => .bool (truthF p)) := by
  obtain ⟨t, rfl⟩ := h
  cases p
  case str s =>
    rcases ok with rfl | rfl | rfl
    all_goals dsimp only [PV.val]
    all_goals walk_at "mine enter"
    all_goals k_steps
    all_goals walk_at "mine end"
    all_goals decide +kernel
  all_goals dsimp only [PV.val]
  all_goals walk_at "mine enter"
  all_goals k_steps
  all_goals walk_at "mine end"
  all_goals first | (with_reducible exact tr1 (by assumption)) | (with_reducible exact tr2 (by assumption)) | rfl
theorem number_of_ct (v : Value) (p : PV) (h : IsV v p) (ok : OkN p) : Ct w 8 414 [v] (fun t => .int (numF p) t) := by
  obtain ⟨t, rfl⟩ := h
  cases p
  case str s =>
    rcases ok with rfl | rfl | rfl
    all_goals dsimp only [PV.val]
    all_goals walk_at "mine enter"
    all_goals k_steps
    all_goals walk_at "mine end"
    · exact num0
    · exact numx
    · exact num12
  all_goals dsimp only [PV.val]
  all_goals walk_at "mine enter"
  all_goals k_steps
  all_goals walk_at "mine end"
  all_goals first | with_reducible rfl | ((rename (_ = true) => hb); exact (if_pos hb).symm) | ((rename (_ = false) => hb); exact (if_neg (nb hb)).symm) | rfl
theorem type_of_ct (v : Value) (p : PV) (h : IsV v p) : Ct w 2 505 [v] (fun t => .str (typeF p) t) := by
  obtain ⟨t, rfl⟩ := h
  cases p
  all_goals dsimp only [PV.val]
  all_goals walk_at "mine enter"
  all_goals k_steps
  all_goals walk_at "mine end"
  all_goals rfl
local macro_rules | `(tactic| walk_at "call ref") => `(tactic| ((with_reducible show wpAny _ _ (call (Value.ref 463) _) _ _ _); k_dflt (refine' Ct.use (sub_ct _ _ _ _ _) ?k1 ?k2 ?k3 ?k4 ?k5 ?kK ?kd ?ku ?_; (case k1 => k_asm); (case k2 => k_asm); (case k3 => k_asm); (case k4 => k_asm); (case k5 => k_asm); (case kK => first | exact rfl | assumption); (case kd => ktr_room); (case ku => ktr_units)); intro t9 h9 tk9 F9 N9; (try dsimp only); (try k_fold)))
local macro_rules | `(tactic| walk_at "call ref") => `(tactic| ((with_reducible show wpAny _ _ (call (Value.ref 568) _) _ _ _); k_dflt (refine' Ct.use (i32_ct _ _ _) ?k1 ?k2 ?k3 ?k4 ?k5 ?kK ?kd ?ku ?_; (case k1 => k_asm); (case k2 => k_asm); (case k3 => k_asm); (case k4 => k_asm); (case k5 => k_asm); (case kK => first | exact rfl | assumption); (case kd => ktr_room); (case ku => ktr_units)); intro t9 h9 tk9 F9 N9; (try dsimp only); (try k_fold)))
local macro_rules | `(tactic| walk_at "call ref") => `(tactic| ((with_reducible show wpAny _ _ (call (Value.ref 407) _) _ _ _); k_dflt (refine Ct.use (truthy_ct _ _ _ (by first | assumption | exact isV_int | exact isV_bool | exact isV_str | exact isV_none | exact isV_null) (by first | assumption | exact True.intro)) (by k_asm) (by k_asm) (by k_asm) (by k_asm) (by k_asm) (by first | exact rfl | assumption) (by ktr_room) (by ktr_units) ?_); intro t9 h9 tk9 F9 N9; (try dsimp only [nullV, intV, strV]); (try k_fold)))
local macro_rules | `(tactic| walk_at "call ref") => `(tactic| ((with_reducible show wpAny _ _ (call (Value.ref 414) _) _ _ _); k_dflt (refine Ct.use (number_of_ct _ _ _ (by first | assumption | exact isV_int | exact isV_bool | exact isV_str | exact isV_none | exact isV_null) (by first | assumption | exact True.intro)) (by k_asm) (by k_asm) (by k_asm) (by k_asm) (by k_asm) (by first | exact rfl | assumption) (by ktr_room) (by ktr_units) ?_); intro t9 h9 tk9 F9 N9; (try dsimp only [nullV, intV, strV]); (try k_fold)))
local macro_rules | `(tactic| walk_at "call ref") => `(tactic| ((with_reducible show wpAny _ _ (call (Value.ref 505) _) _ _ _); k_dflt (refine Ct.use (type_of_ct _ _ _ (by first | assumption | exact isV_int | exact isV_bool | exact isV_str | exact isV_none | exact isV_null)) (by k_asm) (by k_asm) (by k_asm) (by k_asm) (by k_asm) (by first | exact rfl | assumption) (by ktr_room) (by ktr_units) ?_); intro t9 h9 tk9 F9 N9; (try dsimp only [nullV, intV, strV]); (try k_fold)))
theorem to_number_ct (v : Value) (p : PV) (h : IsV v p) (ok : OkN p) : Ct w 9 435 [.none, v] (fun t => .int (numF p) t) := by
  walk_at "mine enter"
  k_steps
  all_goals walk_at "mine end"
  all_goals rfl
local macro_rules | `(tactic| walk_at "call ref") => `(tactic| ((with_reducible show wpAny _ _ (call (Value.ref 435) _) _ _ _); k_dflt (refine Ct.use (to_number_ct _ _ _ (by first | assumption | exact isV_int | exact isV_bool | exact isV_str | exact isV_none | exact isV_null) (by first | assumption | exact True.intro)) (by k_asm) (by k_asm) (by k_asm) (by k_asm) (by k_asm) (by first | exact rfl | assumption) (by ktr_room) (by ktr_units) ?_); intro t9 h9 tk9 F9 N9; (try dsimp only [nullV, intV, strV]); (try k_fold)))
theorem u_neg_ct (v : Value) (p : PV) (h : IsV v p) (ok : OkN p) (t : Tok) : Ct w 10 620 [.none, .int 51 t, v] (fun t => .int (negF (numF p)) t) := by
  walk_at "mine enter"
  k_steps
  all_goals walk_at "mine end"
  all_goals rfl
theorem u_tonum_ct (v : Value) (p : PV) (h : IsV v p) (ok : OkN p) (t : Tok) : Ct w 10 620 [.none, .int 52 t, v] (fun t => .int (numF p) t) := by
  walk_at "mine enter"
  k_steps
  all_goals walk_at "mine end"
  all_goals rfl
theorem u_not_ct (v : Value) (p : PV) (h : IsV v p) (ok : OkN p) (t : Tok) : Ct w 10 620 [.none, .int 53 t, v] (fun t => .bool (!truthF p)) := by
  walk_at "mine enter"
  k_steps
  all_goals walk_at "mine end"
  all_goals rfl
theorem i32_rng (a : Int) : -2147483648 ≤ i32F a ∧ i32F a ≤ 2147483647 := by
  have : 0 ≤ u32F a ∧ u32F a < 4294967296 := by
    unfold u32F
    split
    · rw [Int.fmod_eq_emod_of_nonneg _ (by decide)]
      omega
    · omega
  unfold i32F
  split <;> omega
theorem small_bits {n : Int} (h : -4294967296 ≤ n) (h' : n ≤ 4294967296) : bits n ≤ 4500 := by
  refine intBits_le_iff.mpr (Nat.lt_of_lt_of_le (m := 2 ^ 33) (by omega) (Nat.pow_le_pow_right (by decide) (by decide)))
theorem i32_bits (a : Int) : bits (Builtin.bitNot (i32F a)) ≤ 4500 := by
  have := i32_rng a
  exact small_bits (by unfold Builtin.bitNot; omega) (by unfold Builtin.bitNot; omega)
theorem u_bitnot_ct (v : Value) (p : PV) (h : IsV v p) (ok : OkN p) (t : Tok) : Ct w 10 620 [.none, .int 54 t, v] (fun t => .int (fromF (Builtin.bitNot (i32F (numF p)))) t) := by
  have g1 := i32_bits (numF p)
  walk_at "mine enter"
  k_steps
  all_goals walk_at "mine end"
  all_goals rfl
theorem u_typeof_ct (v : Value) (p : PV) (h : IsV v p) (t : Tok) : Ct w 10 620 [.none, .int 55 t, v] (fun t => .str (typeF p) t) := by
  walk_at "mine enter"
  k_steps
  all_goals walk_at "mine end"
  all_goals rfl
theorem u_inc_ct (v : Value) (p : PV) (h : IsV v p) (ok : OkN p) (t : Tok) : Ct w 10 620 [.none, .int 56 t, v] (fun t => .int (addF (numF p) 4607182418800017408) t) := by
  walk_at "mine enter"
  k_steps
  all_goals walk_at "mine end"
  all_goals rfl
theorem u_dec_ct (v : Value) (p : PV) (h : IsV v p) (ok : OkN p) (t : Tok) : Ct w 10 620 [.none, .int 57 t, v] (fun t => .int (subF (numF p) 4607182418800017408) t) := by
  walk_at "mine enter"
  k_steps
  all_goals walk_at "mine end"
  all_goals rfl
local macro_rules | `(tactic| walk_at "call ref") => `(tactic| ((with_reducible show wpAny _ _ (call (Value.ref 470) _) _ _ _); k_dflt (refine' Ct.use (mul_ct _ _ _ _ _ ?p0 ?p1 ?p2 ?p3) ?k1 ?k2 ?k3 ?k4 ?k5 ?kK ?kd ?ku ?_; (case k1 => k_asm); (case k2 => k_asm); (case k3 => k_asm); (case k4 => k_asm); (case k5 => k_asm); (case kK => first | exact rfl | assumption); (case p0 => walk_at "mine pre"); (case p1 => walk_at "mine pre"); (case p2 => walk_at "mine pre"); (case p3 => walk_at "mine pre"); (case kd => ktr_room); (case ku => ktr_units)); intro t9 h9 tk9 F9 N9; (try dsimp only); (try k_fold)))
theorem plus_ct (a b : Int) (t u : Tok) : Ct w 9 554 [.none, .int a t, .int b u] (fun t => .int (addF a b) t) := by
  walk_at "mine enter"
  k_steps
  all_goals walk_at "mine end"
  all_goals rfl
local macro_rules | `(tactic| walk_at "call ref") => `(tactic| ((with_reducible show wpAny _ _ (call (Value.ref 554) _) _ _ _); k_dflt (refine' Ct.use (plus_ct _ _ _ _ _) ?k1 ?k2 ?k3 ?k4 ?k5 ?kK ?kd ?ku ?_; (case k1 => k_asm); (case k2 => k_asm); (case k3 => k_asm); (case k4 => k_asm); (case k5 => k_asm); (case kK => first | exact rfl | assumption); (case kd => ktr_room); (case ku => ktr_units)); intro t9 h9 tk9 F9 N9; (try dsimp only); (try k_fold)))
theorem b_add_ct (a b : Int) (t u v : Tok) : Ct w 10 613 [.none, .int 30 t, .int a u, .int b v] (fun t => .int (addF a b) t) := by
  walk_at "mine enter"
  k_steps
  all_goals walk_at "mine end"
  all_goals rfl
theorem in_topK {prog : Program} {w : World} {A : Around} {E : Value → Shared → Prop} {s : Shared} {h₀ : Heap} {L a : Addr} {m : Names} {K : Frag} {l : List Value} {dd : Option Addr} {n : Nat} {sl : Array (Option Value)} {ns : List Int} {x : Int} {u : Tok} {Q : Value → Shared → Prop}
    (F : Fr h₀ L s.heap m) (X₀ : K.In h₀) (hl : K.lookup a = some ⟨.type "tuple", dd, .seq l.toArray n, sl⟩) (hi : IntsAre l ns) (h : Q (.bool (ns.any (· == x))) s) :
    wpAny (model prog w) A (compareOp .In (.int x u) (.ref a)) Q E s := in_tuple_ints (tupK (X₀.keeps F.keep) hl) (by simpa using hi) h
local macro_rules | `(tactic| walk_at "compareOp In int ref") => `(tactic| k_dflt (refine in_topK (by k_asm) (by k_asm) (by k_is) (by exact IntsAre.cons _ _ (by first | exact IntsAre.cons _ _ (IntsAre.cons _ _ (IntsAre.cons _ _ IntsAre.nil)) | exact IntsAre.cons _ _ (IntsAre.cons _ _ IntsAre.nil))) ?_))
theorem b_sub_ct (v : Value) (p : PV) (h : IsV v p) (ok : OkN p) (b : Int) (t u : Tok) : Ct w 10 613 [.none, .int 31 t, v, .int b u] (fun t => .int (subF (numF p) b) t) := by
  walk_at "mine enter"
  k_steps
  all_goals walk_at "mine end"
  all_goals rfl
theorem b_mul_ct (v : Value) (p : PV) (h : IsV v p) (ok : OkN p) (b : Int) (t u : Tok) (h0 : 0 ≤ numF p) (h1 : numF p < 18446744073709551616) (h2 : 0 ≤ b) (h3 : b < 18446744073709551616) : Ct w 10 613 [.none, .int 32 t, v, .int b u] (fun t => .int (mulF (numF p) b) t) := by
  have h2' : 0 ≤ numF (.int b) := h2
  have h3' : numF (.int b) < 18446744073709551616 := h3
  walk_at "mine enter"
  k_steps
  all_goals walk_at "mine end"
  all_goals rfl
/- What the law asks of a plain value, its word and its truth. -/
structure GoodP (p : PV) (wd : Str) (b : Bool) : Prop where
  ok : OkN p
  truth : truthF p = b
  word : typeF p = wd
  lo : 0 ≤ numF p
  hi : numF p < 18446744073709551616
  back : negF (negF (numF p)) = numF p
  flip : numF p ≠ 9221120237041090560 → (numF p).fmod 9223372036854775808 = 0 → negF (numF p) ≠ numF p
  less : numF p ≠ 4607182418800017408 → subF (numF p) 4607182418800017408 = negF (addF (negF (numF p)) 4607182418800017408)
  none : subF (numF p) 0 = numF p
  once : mulF (numF p) 4607182418800017408 = numF p
theorem goodP {p : PV} {wd : Str} {b : Bool} {n : Int} (hn : numF p = n) (ok : OkN p) (truth : truthF p = b) (word : typeF p = wd) (lo : 0 ≤ n) (hi : n < 18446744073709551616)
    (less : n ≠ 4607182418800017408 → subF n 4607182418800017408 = negF (addF (negF n) 4607182418800017408)) (none : subF n 0 = n) (once : mulF n 4607182418800017408 = n) : GoodP p wd b := by
  refine ⟨ok, truth, word, by rwa [hn], by rwa [hn], by rw [hn]; exact neg_neg' lo hi, fun _ h => ?_, by rwa [hn], by rwa [hn], by rwa [hn]⟩
  rw [hn] at h ⊢
  rw [Int.fmod_eq_emod_of_nonneg _ (by decide)] at h
  exact neg_ne lo hi h
theorem g_nan : subF 9221120237041090560 4607182418800017408 = negF (addF (negF 9221120237041090560) 4607182418800017408) ∧ subF 9221120237041090560 0 = 9221120237041090560 ∧ mulF 9221120237041090560 4607182418800017408 = 9221120237041090560 := by decide +kernel
theorem g_0 : subF 0 4607182418800017408 = negF (addF (negF 0) 4607182418800017408) ∧ subF 0 0 = 0 ∧ mulF 0 4607182418800017408 = 0 := by decide +kernel
theorem g_n0 : subF 9223372036854775808 4607182418800017408 = negF (addF (negF 9223372036854775808) 4607182418800017408) ∧ subF 9223372036854775808 0 = 9223372036854775808 ∧ mulF 9223372036854775808 4607182418800017408 = 9223372036854775808 := by decide +kernel
theorem g_inf : subF 9218868437227405312 4607182418800017408 = negF (addF (negF 9218868437227405312) 4607182418800017408) ∧ subF 9218868437227405312 0 = 9218868437227405312 ∧ mulF 9218868437227405312 4607182418800017408 = 9218868437227405312 := by decide +kernel
theorem g_ninf : subF 18442240474082181120 4607182418800017408 = negF (addF (negF 18442240474082181120) 4607182418800017408) ∧ subF 18442240474082181120 0 = 18442240474082181120 ∧ mulF 18442240474082181120 4607182418800017408 = 18442240474082181120 := by decide +kernel
theorem g_one : subF 4607182418800017408 0 = 4607182418800017408 ∧ mulF 4607182418800017408 4607182418800017408 = 4607182418800017408 := by decide +kernel
theorem g_a : subF 4599676419421066581 4607182418800017408 = negF (addF (negF 4599676419421066581) 4607182418800017408) ∧ subF 4599676419421066581 0 = 4599676419421066581 ∧ mulF 4599676419421066581 4607182418800017408 = 4599676419421066581 := by decide +kernel
theorem g_b : subF 13970166044104327168 4607182418800017408 = negF (addF (negF 13970166044104327168) 4607182418800017408) ∧ subF 13970166044104327168 0 = 13970166044104327168 ∧ mulF 13970166044104327168 4607182418800017408 = 13970166044104327168 := by decide +kernel
theorem neg0 : negF 0 = 9223372036854775808 := by decide +kernel
theorem sub_none {d : Int} (h : absI d < 9007199254740992) : subF (fromF d) 0 = fromF d := by
  show addF _ (negF 0) = _
  rw [neg0, add_nzero h]
theorem sub_one {d : Int} (h : absI d < 9007199254740991) : subF (fromF d) 4607182418800017408 = fromF (d - 1) := by
  show addF _ (negF 4607182418800017408) = _
  rw [mone_from, add_from (by omega) (by decide) (by unfold absI at *; split <;> split at h <;> omega)]
  rfl
theorem add_one' {d : Int} (h : absI d < 9007199254740991) : addF (fromF d) 4607182418800017408 = fromF (d + 1) := by
  rw [one_from, add_from (by omega) (by decide) (by unfold absI at *; split <;> split at h <;> omega)]
theorem one_is {d : Int} (h : absI d < 9007199254740992) (e : d = 1) : fromF d = 4607182418800017408 := by rw [e, ← one_from]
theorem less_from {d : Int} (h : absI d < 9007199254740990) (h1 : d ≠ 1) : subF (fromF d) 4607182418800017408 = negF (addF (negF (fromF d)) 4607182418800017408) := by
  by_cases h0 : d = 0
  · rw [h0, from_0]
    exact g_0.1
  · rw [sub_one (by omega), neg_from h0 (by omega), add_one' (by unfold absI at *; split <;> split at h <;> omega), neg_from (by omega) (by unfold absI at *; split <;> split at h <;> omega), show -(-d + 1) = d - 1 by omega]
theorem good_from {d : Int} {b : Bool} (h : absI d < 9007199254740990) (hb : decide (d ≠ 0) = b) : GoodP (.int (fromF d)) (Str.ofString "number") b := by
  have r := from_rng (n := d) (by omega)
  refine goodP (n := fromF d) rfl True.intro ?_ rfl r.1 r.2 (fun h1 => less_from h (fun e => h1 (one_is (by omega) e))) (sub_none (by omega)) (mul_one' (by omega))
  have D := from_den (n := d) (by omega)
  show (!isZero _ && !isNan _) = b
  rw [D.nan, ← hb]
  by_cases h0 : d = 0
  · rw [D.zero.mpr h0]
    simp [h0]
  · rw [show isZero (fromF d) = false by simpa using (not_congr D.zero).mpr h0]
    simp [h0]
theorem k_none : GoodP .none (Str.ofString "undefined") false := goodP rfl trivial rfl rfl (by decide) (by decide) (fun _ => g_nan.1) g_nan.2.1 g_nan.2.2
theorem k_null : GoodP .null (Str.ofString "object") false := goodP rfl trivial rfl rfl (by decide) (by decide) (fun _ => g_0.1) g_0.2.1 g_0.2.2
theorem k_true : GoodP (.bool true) (Str.ofString "boolean") true := goodP (n := 4607182418800017408) rfl trivial rfl rfl (by decide) (by decide) (fun h => absurd rfl h) g_one.1 g_one.2
theorem k_false : GoodP (.bool false) (Str.ofString "boolean") false := goodP (n := 0) rfl trivial rfl rfl (by decide) (by decide) (fun _ => g_0.1) g_0.2.1 g_0.2.2
theorem k_0 : GoodP (.int 0) (Str.ofString "number") false := goodP rfl trivial (by decide +kernel) rfl (by decide) (by decide) (fun _ => g_0.1) g_0.2.1 g_0.2.2
theorem k_n0 : GoodP (.int 9223372036854775808) (Str.ofString "number") false := goodP rfl trivial (by decide +kernel) rfl (by decide) (by decide) (fun _ => g_n0.1) g_n0.2.1 g_n0.2.2
theorem k_nan : GoodP (.int 9221120237041090560) (Str.ofString "number") false := goodP rfl trivial (by decide +kernel) rfl (by decide) (by decide) (fun _ => g_nan.1) g_nan.2.1 g_nan.2.2
theorem k_inf : GoodP (.int 9218868437227405312) (Str.ofString "number") true := goodP rfl trivial (by decide +kernel) rfl (by decide) (by decide) (fun _ => g_inf.1) g_inf.2.1 g_inf.2.2
theorem k_ninf : GoodP (.int 18442240474082181120) (Str.ofString "number") true := goodP rfl trivial (by decide +kernel) rfl (by decide) (by decide) (fun _ => g_ninf.1) g_ninf.2.1 g_ninf.2.2
theorem k_one : GoodP (.int 4607182418800017408) (Str.ofString "number") true := goodP rfl trivial (by decide +kernel) rfl (by decide) (by decide) (fun h => absurd rfl h) g_one.1 g_one.2
theorem k_t0 : GoodP (.str (Str.ofString "")) (Str.ofString "string") false := goodP num0.symm (.inl rfl) (by decide +kernel) rfl (by decide) (by decide) (fun _ => g_0.1) g_0.2.1 g_0.2.2
theorem k_tx : GoodP (.str (Str.ofString "x")) (Str.ofString "string") true := goodP numx.symm (.inr (.inl rfl)) (by decide +kernel) rfl (by decide) (by decide) (fun _ => g_nan.1) g_nan.2.1 g_nan.2.2
theorem k_t12 : GoodP (.str (Str.ofString "12")) (Str.ofString "string") true := by
  have r := from_rng (n := 12) (by decide)
  exact goodP num12.symm (.inr (.inr rfl)) (by decide +kernel) rfl r.1 r.2 (fun _ => less_from (by decide) (by decide)) (sub_none (by decide)) (mul_one' (by decide))
theorem k_a : GoodP (.int 4599676419421066581) (Str.ofString "number") true := goodP rfl trivial (by decide +kernel) rfl (by decide) (by decide) (fun _ => g_a.1) g_a.2.1 g_a.2.2
theorem k_b : GoodP (.int 13970166044104327168) (Str.ofString "number") true := goodP rfl trivial (by decide +kernel) rfl (by decide) (by decide) (fun _ => g_b.1) g_b.2.1 g_b.2.2
/- The other asks. -/
theorem tilde (n : Int) : fromF (Builtin.bitNot (i32F (fromF (Builtin.bitNot (i32F n))))) = fromF (i32F n) := by
  have h := i32_rng n
  rw [i32_from (by unfold Builtin.bitNot; omega) (by unfold Builtin.bitNot; omega)]
  congr 1
  unfold Builtin.bitNot
  omega
theorem up_down {c : Int} (h0 : 0 ≤ c) (h1 : c < 4503599627370496) : subF (addF (fromF c) 4607182418800017408) 4607182418800017408 = fromF c := by
  rw [add_one' (by unfold absI; split <;> omega), sub_one (by unfold absI; split <;> omega), Int.add_sub_cancel]
theorem down_up {c : Int} (h0 : 0 ≤ c) (h1 : c < 4503599627370496) : addF (subF (fromF c) 4607182418800017408) 4607182418800017408 = fromF c := by
  rw [sub_one (by unfold absI; split <;> omega), add_one' (by unfold absI; split <;> omega), Int.sub_add_cancel]
theorem less_neg {n c : Int} (h0 : 0 ≤ c) (h1 : c < 4503599627370496) : subF n (negF (fromF c)) = addF n (fromF c) := by
  have r := from_rng (n := c) (by unfold absI; split <;> omega)
  show addF _ (negF (negF _)) = _
  rw [neg_neg' r.1 r.2]
local macro_rules | `(tactic| walk_at "call ref") => `(tactic| ((with_reducible show wpAny _ _ (call (Value.ref 620) _) _ _ _); k_dflt (refine Ct.use (u_neg_ct _ _ _ (by first | assumption | exact isV_int | exact isV_bool | exact isV_str | exact isV_none | exact isV_null) (by first | assumption | exact True.intro) _) (by k_asm) (by k_asm) (by k_asm) (by k_asm) (by k_asm) (by first | exact rfl | assumption) (by ktr_room) (by ktr_units) ?_); intro t9 h9 tk9 F9 N9; (try dsimp only [nullV, intV, strV]); (try k_fold)))
local macro_rules | `(tactic| walk_at "call ref") => `(tactic| ((with_reducible show wpAny _ _ (call (Value.ref 620) _) _ _ _); k_dflt (refine Ct.use (u_tonum_ct _ _ _ (by first | assumption | exact isV_int | exact isV_bool | exact isV_str | exact isV_none | exact isV_null) (by first | assumption | exact True.intro) _) (by k_asm) (by k_asm) (by k_asm) (by k_asm) (by k_asm) (by first | exact rfl | assumption) (by ktr_room) (by ktr_units) ?_); intro t9 h9 tk9 F9 N9; (try dsimp only [nullV, intV, strV]); (try k_fold)))
local macro_rules | `(tactic| walk_at "call ref") => `(tactic| ((with_reducible show wpAny _ _ (call (Value.ref 620) _) _ _ _); k_dflt (refine Ct.use (u_not_ct _ _ _ (by first | assumption | exact isV_int | exact isV_bool | exact isV_str | exact isV_none | exact isV_null) (by first | assumption | exact True.intro) _) (by k_asm) (by k_asm) (by k_asm) (by k_asm) (by k_asm) (by first | exact rfl | assumption) (by ktr_room) (by ktr_units) ?_); intro t9 h9 tk9 F9 N9; (try dsimp only [nullV, intV, strV]); (try k_fold)))
local macro_rules | `(tactic| walk_at "call ref") => `(tactic| ((with_reducible show wpAny _ _ (call (Value.ref 620) _) _ _ _); k_dflt (refine Ct.use (u_bitnot_ct _ _ _ (by first | assumption | exact isV_int | exact isV_bool | exact isV_str | exact isV_none | exact isV_null) (by first | assumption | exact True.intro) _) (by k_asm) (by k_asm) (by k_asm) (by k_asm) (by k_asm) (by first | exact rfl | assumption) (by ktr_room) (by ktr_units) ?_); intro t9 h9 tk9 F9 N9; (try dsimp only [nullV, intV, strV]); (try k_fold)))
local macro_rules | `(tactic| walk_at "call ref") => `(tactic| ((with_reducible show wpAny _ _ (call (Value.ref 620) _) _ _ _); k_dflt (refine Ct.use (u_inc_ct _ _ _ (by first | assumption | exact isV_int | exact isV_bool | exact isV_str | exact isV_none | exact isV_null) (by first | assumption | exact True.intro) _) (by k_asm) (by k_asm) (by k_asm) (by k_asm) (by k_asm) (by first | exact rfl | assumption) (by ktr_room) (by ktr_units) ?_); intro t9 h9 tk9 F9 N9; (try dsimp only [nullV, intV, strV]); (try k_fold)))
local macro_rules | `(tactic| walk_at "call ref") => `(tactic| ((with_reducible show wpAny _ _ (call (Value.ref 620) _) _ _ _); k_dflt (refine Ct.use (u_dec_ct _ _ _ (by first | assumption | exact isV_int | exact isV_bool | exact isV_str | exact isV_none | exact isV_null) (by first | assumption | exact True.intro) _) (by k_asm) (by k_asm) (by k_asm) (by k_asm) (by k_asm) (by first | exact rfl | assumption) (by ktr_room) (by ktr_units) ?_); intro t9 h9 tk9 F9 N9; (try dsimp only [nullV, intV, strV]); (try k_fold)))
local macro_rules | `(tactic| walk_at "call ref") => `(tactic| ((with_reducible show wpAny _ _ (call (Value.ref 620) _) _ _ _); k_dflt (refine Ct.use (u_typeof_ct _ _ _ (by first | assumption | exact isV_int | exact isV_bool | exact isV_str | exact isV_none | exact isV_null) _) (by k_asm) (by k_asm) (by k_asm) (by k_asm) (by k_asm) (by first | exact rfl | assumption) (by ktr_room) (by ktr_units) ?_); intro t9 h9 tk9 F9 N9; (try dsimp only [nullV, intV, strV]); (try k_fold)))
local macro_rules | `(tactic| walk_at "call ref") => `(tactic| ((with_reducible show wpAny _ _ (call (Value.ref 613) _) _ _ _); k_dflt (refine Ct.use (b_sub_ct _ _ _ (by first | assumption | exact isV_int | exact isV_bool | exact isV_str | exact isV_none | exact isV_null) (by first | assumption | exact True.intro) _ _ _) (by k_asm) (by k_asm) (by k_asm) (by k_asm) (by k_asm) (by first | exact rfl | assumption) (by ktr_room) (by ktr_units) ?_); intro t9 h9 tk9 F9 N9; (try dsimp only [nullV, intV, strV]); (try k_fold)))
local macro_rules | `(tactic| walk_at "call ref") => `(tactic| ((with_reducible show wpAny _ _ (call (Value.ref 613) _) _ _ _); k_dflt (refine' Ct.use (b_add_ct _ _ _ _ _ _) ?k1 ?k2 ?k3 ?k4 ?k5 ?kK ?kd ?ku ?_; (case k1 => k_asm); (case k2 => k_asm); (case k3 => k_asm); (case k4 => k_asm); (case k5 => k_asm); (case kK => first | exact rfl | assumption); (case kd => ktr_room); (case ku => ktr_units)); intro t9 h9 tk9 F9 N9; (try dsimp only); (try k_fold)))
local macro_rules | `(tactic| walk_at "call ref") => `(tactic| ((with_reducible show wpAny _ _ (call (Value.ref 613) _) _ _ _); k_dflt (refine Ct.use (b_mul_ct _ _ _ (by first | assumption | exact isV_int | exact isV_bool | exact isV_str | exact isV_none | exact isV_null) (by first | assumption | exact True.intro) _ _ _ (by first | assumption | decide) (by first | assumption | decide) (by first | assumption | decide) (by first | assumption | decide)) (by k_asm) (by k_asm) (by k_asm) (by k_asm) (by k_asm) (by first | exact rfl | assumption) (by ktr_room) (by ktr_units) ?_); intro t9 h9 tk9 F9 N9; (try dsimp only [nullV, intV, strV]); (try k_fold)))
theorem cut {M : Model} {A : Around} {E : Value → Shared → Prop} {s : Shared} {env : Env} {st : Stmt} {rest : List Stmt} {Q : Flow → Shared → Prop} (J : Shared → Prop)
    (h1 : wpAny M A (exec st env) (fun f s' => f = .next ∧ J s') E s) (h2 : ∀ s', J s' → wpAny M A (execs rest env) Q E s') : wpAny M A (execs (st :: rest) env) Q E s := by
  refine wpAny_execs_cons (wpAny_mono h1 (fun f s' h => ?_) fun _ _ h => h)
  obtain ⟨rfl, h⟩ := h
  exact h2 s' h
local macro_rules | `(tactic| walk_at "subscriptTail List") => `(tactic| k_dflt (refine kba_turn (value' := PySem.Expr.Name (PySem.Str.ofString "x") ⟨0, 0, 0, 0⟩) (fun _ => rfl) ?_))
local macro_rules | `(tactic| l_ints) => `(tactic| first | (with_reducible assumption) | (with_reducible exact IntsAre.nil) | (with_reducible exact IntsAre.cons _ _ (by l_ints)) | (with_reducible exact IntsAre.append (by l_ints) (by l_ints)))
theorem my_slice {prog : Program} {w : World} {A : Around} {E : Value → Shared → Prop} {s : Shared} {h₀ : Heap} {L l : Addr} {m : Str → Option Value} {news : List (Addr × Obj)} {a b x : Int} {t u tx : Tok} {value slice : PySem.Expr} {Q : Value → Shared → Prop} (F : Fr h₀ L s.heap m) (N : News h₀ L s.heap news) (hm : (l, listOf #[.int a t, .int b u] 0) ∈ news) (h0 : 0 ≤ x)
    (h : ∀ D ws h', Fr h₀ L h' m → News h₀ L h' ((D, listOf (List.toArray ws) 0) :: news) → (∀ p ∈ news, p.1 < D) → IntsAre ws ([a, b].drop x.toNat) → Q (.ref D) { s with heap := h' })
    (hs : subscripted slice false (.ref l) (.ref s.heap.objs.size) = operate [.ref s.heap.objs.size, .ref l] (getItem (.ref l) (.ref s.heap.objs.size))) (ht : ∀ r, letTemporaryGo value (.ref l) r = pure ()) :
    wpAny (model prog w) A (subscriptTail value slice (.ref l) (.ref s.heap.objs.size)) Q E { s with heap := s.heap.push { cls := .type "slice", data := .fields #[.int x tx, .none, .none] } } :=
  kmk_slice_ints (vs := [.int a t, .int b u]) (ns := [a, b]) (ms := [a, b].drop x.toNat) F N (News.isList N hm) (IsPart.int _ _) IsPart.none (IntsAre.cons _ _ (IntsAre.cons _ _ IntsAre.nil)) (kmk_from (IntsAre.cons _ _ (IntsAre.cons _ _ IntsAre.nil)) h0) rfl (fun D ws h' F N l1 i _ _ => h D ws h' F N l1 i) hs ht (Nat.le_of_ble_eq_true rfl)
local macro_rules | `(tactic| walk_at "subscriptTail Name Slice ref ref") => `(tactic| ((with_reducible refine' my_slice ?F ?N ?m ?z ?_ ?s ?t; (case F => k_asm); (case N => k_asm); (case m => k_mem); (case z => first | omega | k_dflt (exact Int.natCast_nonneg _) | exact Int.ofNat_nonneg _); (case s => with_unfolding_all rfl); (case t => kmk_pure)); intro D' ws' h' F' N' l1 hI'; (try k_lt l1); (try k_sweep)))
theorem cells_are (ns : List Int) (ws : List Value) (h : IntsAre ws (List.map (fun k => if k < 0 then -k else k) (ns.take 2) ++ List.drop ((ns.take 2).length : Int).toNat [11, 4503599627370001])) : ∃ c0 c1 : Int, IntsAre ws [c0, c1] ∧ 0 ≤ c0 ∧ 0 ≤ c1 := by
  have ab : ∀ k : Int, 0 ≤ (if k < 0 then -k else k) := fun k => by split <;> omega
  match ns, h with
  | [], h => exact ⟨11, 4503599627370001, h, by decide, by decide⟩
  | [a], h => exact ⟨_, _, h, ab a, by decide⟩
  | a :: b :: r, h => exact ⟨_, _, by simpa using h, ab a, ab b⟩
def J1 (s₁ : Shared) (s' : Shared) : Prop := ∃ (h' : Heap) (tk D l : Nat) (ws : List Value) (c0 c1 : Int), s' = { s₁ with heap := h', toks := tk } ∧
  Fr s₁.heap s₁.heap.objs.size h' (fun y => if y = Str.ofString "cells" then some (Value.ref D) else List.lookup y [(Str.ofString "script", Value.ref l)].reverse) ∧ News s₁.heap s₁.heap.objs.size h' [(D, listOf ws.toArray 0)] ∧ IntsAre ws [c0, c1] ∧ 0 ≤ c0 ∧ 0 ≤ c1
section
variable {prog : Program} {w : World} {A : Around} {E : Value → Shared → Prop} {s : Shared} {t u : Tok} {Q : Value → Shared → Prop}
theorem pow51 (h : Q (.int 2251799813685248 s.toks) { s with toks := s.toks + 1 }) : wpAny (model prog w) A (binaryOp .Pow (.int 2 t) (.int 51 u)) Q E s := pow_int_small (by decide) (by decide) (by decide) h
theorem pow52 (h : Q (.int 4503599627370496 s.toks) { s with toks := s.toks + 1 }) : wpAny (model prog w) A (binaryOp .Pow (.int 2 t) (.int 52 u)) Q E s := pow_int_small (by decide) (by decide) (by decide) h
theorem pow63 (h : Q (.int 9223372036854775808 s.toks) { s with toks := s.toks + 1 }) : wpAny (model prog w) A (binaryOp .Pow (.int 2 t) (.int 63 u)) Q E s := pow_int_small (by decide) (by decide) (by decide) h
end
local macro_rules | `(tactic| walk_at "binaryOp Pow int int") => `(tactic| with_reducible first | refine pow52 ?_ | refine pow51 ?_ | refine pow63 ?_)
def tupV (v : Value) (wd : Str) (t : Tok) (b : Bool) : Obj := { cls := .type "tuple", data := .seq #[v, .str wd t, .bool b] }
def Menu (h₀ : Heap) (L : Addr) (h' : Heap) (d : Addr) : Prop := ∃ (v : Value) (p : PV) (wd : Str) (t : Tok) (b : Bool), News h₀ L h' [(d, tupV v wd t b)] ∧ IsV v p ∧ GoodP p wd b
theorem menu {h₀ h' : Heap} {L d : Addr} {news : Led} {v : Value} {p : PV} {wd : Str} {t : Tok} {b : Bool} (N : News h₀ L h' news) (iv : IsV v p) (g : GoodP p wd b) (m : (d, tupV v wd t b) ∈ news) : Menu h₀ L h' d :=
  ⟨v, p, wd, t, b, fun q hq => N q (by rwa [List.mem_singleton.mp hq]), iv, g⟩
theorem mall {P : Addr → Prop} {a : Addr} {l : List Addr} (h : P a) (t : ∀ d ∈ l, P d) : ∀ d ∈ a :: l, P d := fun d hd => by
  rcases List.mem_cons.mp hd with rfl | hd
  · exact h
  · exact t d hd
theorem mnil {P : Addr → Prop} : ∀ d ∈ ([] : List Addr), P d := fun d hd => by cases hd
theorem two_of {h₀ h' : Heap} {L : Addr} {news : Led} {x y : Addr × Obj} (N : News h₀ L h' (x :: news)) (m : y ∈ news) : News h₀ L h' [x, y] := fun p hp => N p (by
  rcases List.mem_cons.mp hp with rfl | hp
  · exact .head _
  · rw [List.mem_singleton.mp hp]
    exact .tail _ m)
local macro_rules | `(tactic| walk_at "mine mem") => `(tactic| first | exact List.Mem.head _ | (refine List.Mem.tail _ ?_; walk_at "mine mem"))
def J2 (s₁ : Shared) (s' : Shared) : Prop := ∃ (h' : Heap) (tk S D l : Nat) (ws : List Value) (c0 c1 : Int) (ds : List Addr), s' = { s₁ with heap := h', toks := tk } ∧
  Fr s₁.heap s₁.heap.objs.size h' (fun y => if y = Str.ofString "some" then some (Value.ref S) else if y = Str.ofString "cells" then some (Value.ref D) else List.lookup y [(Str.ofString "script", Value.ref l)].reverse) ∧
  News s₁.heap s₁.heap.objs.size h' [(S, listOf (List.toArray (ds.map Value.ref)) 0), (D, listOf ws.toArray 0)] ∧ IntsAre ws [c0, c1] ∧ 0 ≤ c0 ∧ 0 ≤ c1 ∧ ds.length = 16 ∧ ∀ d ∈ ds, Menu s₁.heap s₁.heap.objs.size h' d
theorem k_from (c : Int) : GoodP (.int (fromF (c.fmod 4503599627370496 - 2251799813685248))) (Str.ofString "number") (c.fmod 4503599627370496 != 2251799813685248) := by
  have hc : 0 ≤ c.fmod 4503599627370496 ∧ c.fmod 4503599627370496 < 4503599627370496 := by
    rw [Int.fmod_eq_emod_of_nonneg _ (by decide)]
    omega
  generalize c.fmod 4503599627370496 = x at hc
  refine good_from (by unfold absI; split <;> omega) ?_
  rw [Bool.eq_iff_iff, decide_eq_true_iff, bne_iff_ne]
  omega
theorem bits_low {n : Int} (h0 : -2251799813685248 ≤ n) (h1 : n < 4503599627370496) : bits n ≤ 4500 := by
  have h : bits n ≤ 52 := (show bits n ≤ 52 ↔ n.natAbs < 2 ^ 52 from intBits_le_iff).mpr (by omega)
  omega
theorem bits_c (c : Int) : bits (c.fmod 4503599627370496) ≤ 4500 := by
  rw [Int.fmod_eq_emod_of_nonneg _ (by decide)]
  exact bits_low (by omega) (by omega)
theorem bits_d (c : Int) : bits (c.fmod 4503599627370496 - 2251799813685248) ≤ 4500 := by
  rw [Int.fmod_eq_emod_of_nonneg _ (by decide)]
  exact bits_low (by omega) (by omega)
local macro_rules | `(tactic| walk_at "mine pre") => `(tactic| with_reducible first | assumption | exact bits_d _ | exact bits_c _ | decide)
theorem my_pick {prog : Program} {w : World} {A : Around} {E : Value → Shared → Prop} {s : Shared} {h₀ : Heap} {L S : Addr} {news : Led} {ds : List Addr} {k : Int} {u : Tok} {value slice : PySem.Expr} {Q : Value → Shared → Prop} (N : News h₀ L s.heap news) (hm : (S, listOf (List.toArray (ds.map Value.ref)) 0) ∈ news) (hl : ds.length = 16)
    (h : ∀ d ∈ ds, Q (.ref d) s) (hs : subscripted slice false (.ref S) (.int (k.fmod 16) u) = operate [.ref S, .int (k.fmod 16) u] (getItem (.ref S) (.int (k.fmod 16) u))) :
    wpAny (model prog w) A (subscriptTail value slice (.ref S) (.int (k.fmod 16) u)) Q E s := by
  have hr : 0 ≤ k.fmod 16 ∧ k.fmod 16 < 16 := by
    rw [Int.fmod_eq_emod_of_nonneg _ (by decide)]
    omega
  generalize k.fmod 16 = x at hr hs
  have hx : x.toNat < ds.length := by omega
  refine tail_any (News.isList N hm).typeIs slot_list_getitem.lookup (wpAny_getItem_list (News.isList N hm) hr.1 (by omega) (x := .ref ds[x.toNat]) ?_ (h _ (List.getElem_mem hx))) hs
  simp [hx]
theorem swap {h₀ h' : Heap} {L : Addr} {x y z : Addr × Obj} (N : News h₀ L h' [x]) (N' : News h₀ L h' [y, z]) : News h₀ L h' [x, z] := fun p hp => by
  rcases List.mem_cons.mp hp with rfl | hp
  · exact N _ (.head _)
  · exact N' _ (.tail _ hp)
theorem snd_of {h₀ h' : Heap} {L : Addr} {x z : Addr × Obj} (N : News h₀ L h' [x, z]) : News h₀ L h' [z] := fun p hp => N p (.tail _ hp)
def J3 (s₁ : Shared) (s' : Shared) : Prop := ∃ (h' : Heap) (tk S D l : Nat) (ws : List Value) (c0 c1 : Int) (v : Value) (p : PV) (wd : Str) (t : Tok) (b : Bool), s' = { s₁ with heap := h', toks := tk } ∧
  Fr s₁.heap s₁.heap.objs.size h' (fun y => if y = Str.ofString "truth" then some (Value.bool b) else if y = Str.ofString "word" then some (Value.str wd t) else if y = Str.ofString "value" then some v else
    if y = Str.ofString "some" then some (Value.ref S) else if y = Str.ofString "cells" then some (Value.ref D) else List.lookup y [(Str.ofString "script", Value.ref l)].reverse) ∧
  News s₁.heap s₁.heap.objs.size h' [(D, listOf ws.toArray 0)] ∧ IntsAre ws [c0, c1] ∧ 0 ≤ c0 ∧ 0 ≤ c1 ∧ IsV v p ∧ GoodP p wd b
def J4 (s₁ : Shared) (s' : Shared) : Prop := ∃ (h' : Heap) (tk S D l : Nat) (c : Int) (v : Value) (p : PV) (wd : Str) (t u u' : Tok) (b : Bool), s' = { s₁ with heap := h', toks := tk } ∧
  Fr s₁.heap s₁.heap.objs.size h' (fun y => if y = Str.ofString "number" then some (Value.int (numF p) u') else if y = Str.ofString "whole" then some (Value.int (fromF c) u) else if y = Str.ofString "truth" then some (Value.bool b) else if y = Str.ofString "word" then some (Value.str wd t) else if y = Str.ofString "value" then some v else
    if y = Str.ofString "some" then some (Value.ref S) else if y = Str.ofString "cells" then some (Value.ref D) else List.lookup y [(Str.ofString "script", Value.ref l)].reverse) ∧
  News s₁.heap s₁.heap.objs.size h' [] ∧ IsV v p ∧ GoodP p wd b ∧ 0 ≤ c ∧ c < 4503599627370496
theorem news_nil {h₀ h : Heap} {L : Addr} {l : Led} (_ : News h₀ L h l) : News h₀ L h [] := fun p hp => by cases hp
theorem c_lo (c : Int) : 0 ≤ c.fmod 4503599627370496 := by
  rw [Int.fmod_eq_emod_of_nonneg _ (by decide)]
  omega
theorem c_hi (c : Int) : c.fmod 4503599627370496 < 4503599627370496 := by
  rw [Int.fmod_eq_emod_of_nonneg _ (by decide)]
  omega
def EndN (s₁ : Shared) (f : Flow) (s' : Shared) : Prop := f = .next ∧ J4 s₁ s'
theorem cutN {M : Model} {A : Around} {E : Value → Shared → Prop} {s : Shared} {env : Env} {st : Stmt} {rest : List Stmt} {Q : Flow → Shared → Prop} (s₁ : Shared)
    (h1 : wpAny M A (exec st env) (EndN s₁) E s) (h2 : ∀ s', J4 s₁ s' → wpAny M A (execs rest env) Q E s') : wpAny M A (execs (st :: rest) env) Q E s := cut (J4 s₁) h1 h2
theorem ite_f {c : Bool} {P Q : Prop} (h : c = false) (k : Q) : if c = true then P else Q := by
  rw [h, if_neg (by decide)]
  exact k
theorem ite_t {c : Bool} {P Q : Prop} (h : c = true) (k : P) : if c = true then P else Q := by
  rw [h, if_pos rfl]
  exact k
theorem bne_f {a b : Int} (h : a = b) : (a != b) = false := by rw [h, bne_self_eq_false]
theorem bne_fb {a b : Bool} (h : a = b) : (a != b) = false := by rw [h]; cases b <;> rfl
local macro_rules | `(tactic| walk_at "ite") => `(tactic| with_reducible first | refine ite_f (by assumption) ?_ | refine ite_t (by assumption) ?_)
theorem bits_i (a : Int) : bits (i32F a) ≤ 4500 := by
  have := i32_rng a
  exact small_bits (by omega) (by omega)
theorem one_off : (subF 4607182418800017408 4607182418800017408 != negF (addF (negF 4607182418800017408) 4607182418800017408)) = true := by decide +kernel
theorem beq_t {α : Type} [BEq α] [LawfulBEq α] {a b : α} (h : a = b) : (a == b) = true := by rw [h]; exact beq_self_eq_true _
theorem cw : PySem.Challenge.rw_sa0377_01.Holds := hd (by
  k_fill
  intro w s₀ s₁ mg mb G Y fa o pm cd doc dV kV ho hd hcd hD hmg hg args vals as hpre hlay hrd hwl hlo
  have KX := kIn_of Y
  refine Ground.open G ?_
  intro T B D TE TW
  clear TE TW B D
  have T' : ∃ p l mean, Top p l mean mg mb s₁.heap := ⟨_, _, _, T⟩
  clear T hmg
  obtain ⟨p', l', mean', T⟩ := T'
  clear G Y
  wrow_args hpre hlay hrd hwl hlo
  refine enter_call ?_
  w_top on
  refine codeAny_mono ?_ (fun _ _ g => GoodW.toG g)
  have K0 : Below callerA s₁.heap [] s₁.heap := below_caller _
  w_call any ho hd hcd hD T F
  clear hd
  k_drop
  refine cut (J1 s₁) ?_ ?_
  · dsimp only at F ⊢
    try k_fold
    iterate 41 (first | walk1 | (dsimp only; walk1))
    refine' my_slice ?zF ?zN ?zm ?zz ?_ ?zs ?zt
    (case zF => k_asm)
    (case zN => k_asm)
    (case zm => k_mem)
    (case zz => first | exact Int.natCast_nonneg _ | omega)
    (case zs => with_unfolding_all rfl)
    (case zt => kmk_pure)
    intro D' ws' h' F' N' l1 hI'
    k_lt l1
    try k_sweep
    iterate 4 (first | walk1 | (dsimp only; walk1))
    rename Fr _ _ _ _ => F1
    rename News _ _ _ _ => N1
    rename IntsAre _ (_ ++ _) => I1
    obtain ⟨c0, c1, i1, g0, g1⟩ := cells_are _ _ I1
    exact ⟨_, _, _, _, _, c0, c1, rfl, F1, (fun p hp => N1 p (by cases hp with | head => exact List.Mem.head _ | tail _ h => cases h)), i1, g0, g1⟩
  intro s' j
  obtain ⟨h1, tk1, D1, l1, ws, c0, c1, rfl, F1, N1, i1, g0, g1⟩ := j
  clear F
  clear hcd hD ho
  try dsimp only [envOf] at F1 N1
  try k_fold
  refine cut (J2 s₁) ?_ ?_
  · iterate 202 (first | walk1 | (dsimp only; walk1))
    rename Fr _ _ _ _ => F2
    rename News _ _ _ _ => N2
    refine ⟨rfl, _, _, _, D1, l1, ws, c0, c1, [_, _, _, _, _, _, _, _, _, _, _, _, _, _, _, _], rfl, F2, two_of N2 (by walk_at "mine mem"), i1, g0, g1, rfl, ?_⟩
    refine mall (menu N2 isV_none k_none (by walk_at "mine mem")) ?_
    refine mall (menu N2 isV_null k_null (by walk_at "mine mem")) ?_
    refine mall (menu N2 isV_bool k_true (by walk_at "mine mem")) ?_
    refine mall (menu N2 isV_bool k_false (by walk_at "mine mem")) ?_
    refine mall (menu N2 isV_int k_0 (by walk_at "mine mem")) ?_
    refine mall (menu N2 isV_int k_n0 (by walk_at "mine mem")) ?_
    refine mall (menu N2 isV_int k_nan (by walk_at "mine mem")) ?_
    refine mall (menu N2 isV_int k_inf (by walk_at "mine mem")) ?_
    refine mall (menu N2 isV_int k_ninf (by walk_at "mine mem")) ?_
    refine mall (menu N2 isV_int k_one (by walk_at "mine mem")) ?_
    refine mall (menu N2 isV_str k_t0 (by walk_at "mine mem")) ?_
    refine mall (menu N2 isV_str k_t12 (by walk_at "mine mem")) ?_
    refine mall (menu N2 isV_str k_tx (by walk_at "mine mem")) ?_
    refine mall (menu N2 isV_int (k_from _) (by walk_at "mine mem")) ?_
    refine mall (menu N2 isV_int k_a (by walk_at "mine mem")) ?_
    refine mall (menu N2 isV_int k_b (by walk_at "mine mem")) ?_
    exact mnil
  clear F1 N1 i1 g0 g1
  intro s' j
  obtain ⟨h2, tk2, S2, D2, l2, ws2, c0, c1, ds, rfl, F2, N2, i2, g0, g1, hl, hm⟩ := j
  try dsimp only [envOf] at F2 N2
  try k_fold
  refine cut (J3 s₁) ?_ ?_
  · iterate 10 (first | walk1 | (dsimp only; walk1))
    refine' my_pick ?zN ?zm ?zl ?_ ?zs
    (case zN => k_asm)
    (case zm => k_mem)
    (case zl => assumption)
    (case zs => with_unfolding_all rfl)
    intro d hd
    obtain ⟨v, p, wd, tw, b, Nd, iv, gp⟩ := hm d hd
    have N3 := swap Nd N2
    clear Nd N2 hm hd hl
    iterate 11 (first | walk1 | (dsimp only; walk1))
    rename Fr _ _ _ _ => F3
    rename News _ _ _ _ => N3
    exact ⟨rfl, _, _, S2, D2, l2, ws2, c0, c1, v, p, wd, _, b, rfl, F3, snd_of N3, i2, g0, g1, iv, gp⟩
  clear F2 N2 i2 g0 g1
  intro s' j
  obtain ⟨h3, tk3, S3, D3, l3, ws3, c0, c1, v, p, wd, tw, b, rfl, F3, N3, i3, g0, g1, iv, gp⟩ := j
  have ok := gp.ok
  try dsimp only [envOf] at F3 N3
  try k_fold
  refine cut (J4 s₁) ?_ ?_
  · iterate 41 (first | walk1 | (dsimp only; walk1))
    rename Fr _ _ _ _ => F4
    rename News _ _ _ _ => N4
    exact ⟨rfl, _, _, S3, D3, l3, _, v, p, wd, tw, _, _, b, rfl, F4, news_nil N4, iv, gp, c_lo _, c_hi _⟩
  clear F3 N3 i3 g0 g1 iv gp ok
  intro s' j
  obtain ⟨h4, tk4, S4, D4, l4, c, v, p, wd, tw, u, u', b, rfl, F4, N4, iv, gp, r0, r1⟩ := j
  have ok := gp.ok
  try dsimp only [envOf] at F4 N4
  try k_fold
  refine cutN s₁ ?_ ?_
  · have e1 : (negF (numF (PV.int (negF (numF p)))) != numF p) = false := bne_f gp.back
    have e2 : (negF (numF p) != negF (numF p)) = false := bne_f rfl
    have e3 : (numF p != numF p) = false := bne_f rfl
    repeat (first | walk1 | (dsimp only; walk1))
    rename Fr _ _ _ _ => F5
    rename News _ _ _ _ => N5
    exact ⟨rfl, _, _, S4, D4, l4, c, v, p, wd, tw, u, u', b, rfl, F5, N5, iv, gp, r0, r1⟩
  clear F4 N4 iv gp ok r0 r1
  intro s' j
  obtain ⟨h4, tk4, S4, D4, l4, c, v, p, wd, tw, u, u', b, rfl, F4, N4, iv, gp, r0, r1⟩ := j
  have ok := gp.ok
  try dsimp only [envOf] at F4 N4
  try k_fold
  refine cutN s₁ ?_ ?_
  · have fl := gp.flip
    by_cases h1 : numF p = 9221120237041090560
    · have e1 : (numF p != 9221120237041090560) = false := bne_f h1
      repeat (first | walk1 | (dsimp only; walk1))
      rename Fr _ _ _ _ => F5
      rename News _ _ _ _ => N5
      exact ⟨rfl, _, _, S4, D4, l4, c, v, p, wd, tw, u, u', b, rfl, F5, N5, iv, gp, r0, r1⟩
    · have e1 : (numF p != 9221120237041090560) = true := bne_iff_ne.mpr h1
      by_cases h2 : (numF p).fmod 9223372036854775808 = 0
      · have e2 : ((numF p).fmod 9223372036854775808 == 0) = true := beq_iff_eq.mpr h2
        have e3 : (negF (numF p) == numF p) = false := beq_eq_false_iff_ne.mpr (fl h1 h2)
        repeat (first | walk1 | (dsimp only; walk1))
        rename Fr _ _ _ _ => F5
        rename News _ _ _ _ => N5
        exact ⟨rfl, _, _, S4, D4, l4, c, v, p, wd, tw, u, u', b, rfl, F5, N5, iv, gp, r0, r1⟩
      · have e2 : ((numF p).fmod 9223372036854775808 == 0) = false := beq_eq_false_iff_ne.mpr h2
        repeat (first | walk1 | (dsimp only; walk1))
        rename Fr _ _ _ _ => F5
        rename News _ _ _ _ => N5
        exact ⟨rfl, _, _, S4, D4, l4, c, v, p, wd, tw, u, u', b, rfl, F5, N5, iv, gp, r0, r1⟩
  clear F4 N4 iv gp ok r0 r1
  intro s' j
  obtain ⟨h4, tk4, S4, D4, l4, c, v, p, wd, tw, u, u', b, rfl, F4, N4, iv, gp, r0, r1⟩ := j
  have ok := gp.ok
  try dsimp only [envOf] at F4 N4
  try k_fold
  refine cutN s₁ ?_ ?_
  · have e1 : ((!truthF (PV.bool (!truthF p))) != b) = false := bne_fb (by rw [← gp.truth]; exact Bool.not_not _)
    have e2 : (truthF p != b) = false := bne_fb gp.truth
    repeat (first | walk1 | (dsimp only; walk1))
    rename Fr _ _ _ _ => F5
    rename News _ _ _ _ => N5
    exact ⟨rfl, _, _, S4, D4, l4, c, v, p, wd, tw, u, u', b, rfl, F5, N5, iv, gp, r0, r1⟩
  clear F4 N4 iv gp ok r0 r1
  intro s' j
  obtain ⟨h4, tk4, S4, D4, l4, c, v, p, wd, tw, u, u', b, rfl, F4, N4, iv, gp, r0, r1⟩ := j
  have ok := gp.ok
  try dsimp only [envOf] at F4 N4
  try k_fold
  refine cutN s₁ ?_ ?_
  · have bi : bits (i32F (numF p)) ≤ 4500 := bits_i _
    have e1 : (fromF (Builtin.bitNot (i32F (numF (PV.int (fromF (Builtin.bitNot (i32F (numF p)))))))) != fromF (i32F (numF p))) = false := bne_f (tilde _)
    repeat (first | walk1 | (dsimp only; walk1))
    rename Fr _ _ _ _ => F5
    rename News _ _ _ _ => N5
    exact ⟨rfl, _, _, S4, D4, l4, c, v, p, wd, tw, u, u', b, rfl, F5, N5, iv, gp, r0, r1⟩
  clear F4 N4 iv gp ok r0 r1
  intro s' j
  obtain ⟨h4, tk4, S4, D4, l4, c, v, p, wd, tw, u, u', b, rfl, F4, N4, iv, gp, r0, r1⟩ := j
  have ok := gp.ok
  try dsimp only [envOf] at F4 N4
  try k_fold
  refine cutN s₁ ?_ ?_
  · have e1 : (subF (numF (PV.int (addF (numF (PV.int (fromF c))) 4607182418800017408))) 4607182418800017408 != fromF c) = false := bne_f (up_down r0 r1)
    have e2 : (addF (numF (PV.int (subF (numF (PV.int (fromF c))) 4607182418800017408))) 4607182418800017408 != fromF c) = false := bne_f (down_up r0 r1)
    repeat (first | walk1 | (dsimp only; walk1))
    rename Fr _ _ _ _ => F5
    rename News _ _ _ _ => N5
    exact ⟨rfl, _, _, S4, D4, l4, c, v, p, wd, tw, u, u', b, rfl, F5, N5, iv, gp, r0, r1⟩
  clear F4 N4 iv gp ok r0 r1
  intro s' j
  obtain ⟨h4, tk4, S4, D4, l4, c, v, p, wd, tw, u, u', b, rfl, F4, N4, iv, gp, r0, r1⟩ := j
  have ok := gp.ok
  try dsimp only [envOf] at F4 N4
  try k_fold
  refine cutN s₁ ?_ ?_
  · have e1 : (addF (numF p) 4607182418800017408 != addF (numF p) 4607182418800017408) = false := bne_f rfl
    by_cases hh : numF p = 4607182418800017408
    · have e2 : (numF p != 4607182418800017408) = false := bne_f hh
      have e3 : (subF (numF p) 4607182418800017408 != negF (addF (negF (numF p)) 4607182418800017408)) = true := by rw [hh]; exact one_off
      repeat (first | walk1 | (dsimp only; walk1))
      rename Fr _ _ _ _ => F5
      rename News _ _ _ _ => N5
      exact ⟨rfl, _, _, S4, D4, l4, c, v, p, wd, tw, u, u', b, rfl, F5, N5, iv, gp, r0, r1⟩
    · have e3 : (subF (numF p) 4607182418800017408 != negF (addF (negF (numF p)) 4607182418800017408)) = false := bne_f (gp.less hh)
      repeat (first | walk1 | (dsimp only; walk1))
      rename Fr _ _ _ _ => F5
      rename News _ _ _ _ => N5
      exact ⟨rfl, _, _, S4, D4, l4, c, v, p, wd, tw, u, u', b, rfl, F5, N5, iv, gp, r0, r1⟩
  clear F4 N4 iv gp ok r0 r1
  intro s' j
  obtain ⟨h4, tk4, S4, D4, l4, c, v, p, wd, tw, u, u', b, rfl, F4, N4, iv, gp, r0, r1⟩ := j
  have ok := gp.ok
  try dsimp only [envOf] at F4 N4
  try k_fold
  refine cutN s₁ ?_ ?_
  · have e1 : (subF (numF p) (negF (numF (PV.int (fromF c)))) != addF (numF p) (fromF c)) = false := bne_f (less_neg r0 r1)
    repeat (first | walk1 | (dsimp only; walk1))
    rename Fr _ _ _ _ => F5
    rename News _ _ _ _ => N5
    exact ⟨rfl, _, _, S4, D4, l4, c, v, p, wd, tw, u, u', b, rfl, F5, N5, iv, gp, r0, r1⟩
  clear F4 N4 iv gp ok r0 r1
  intro s' j
  obtain ⟨h4, tk4, S4, D4, l4, c, v, p, wd, tw, u, u', b, rfl, F4, N4, iv, gp, r0, r1⟩ := j
  have ok := gp.ok
  try dsimp only [envOf] at F4 N4
  try k_fold
  refine cutN s₁ ?_ ?_
  · have n0 := gp.lo
    have n1 := gp.hi
    have e1 : (subF (numF p) 0 != numF p) = false := bne_f gp.none
    have e2 : (mulF (numF p) 4607182418800017408 != numF p) = false := bne_f gp.once
    repeat (first | walk1 | (dsimp only; walk1))
    rename Fr _ _ _ _ => F5
    rename News _ _ _ _ => N5
    exact ⟨rfl, _, _, S4, D4, l4, c, v, p, wd, tw, u, u', b, rfl, F5, N5, iv, gp, r0, r1⟩
  clear F4 N4 iv gp ok r0 r1
  intro s' j
  obtain ⟨h4, tk4, S4, D4, l4, c, v, p, wd, tw, u, u', b, rfl, F4, N4, iv, gp, r0, r1⟩ := j
  have ok := gp.ok
  try dsimp only [envOf] at F4 N4
  try k_fold
  have e1 : (typeF p == wd) = true := beq_t gp.word
  have e2 : (typeF (PV.str (typeF p)) == Str.ofString "string") = true := beq_t rfl
  repeat (first | walk1 | (dsimp only; walk1))
  dsimp +zetaDelta only
  rw [e2]
  rename Fr _ _ _ _ => F5
  refine goodW_bool F5 hg (raisesW_false ?_) ?_
  · wrow_none_raised
  · wrow_post)
end Mine
theorem PySem.Challenge.cw_sa0377_01_holds : PySem.Challenge.rw_sa0377_01.Holds := by
  exact Mine.cw
