import PyProof.Rows.All
import Wide.All
import OpenK.AllK
import Wide.FinOn
import PySem.Challenge.RW_pb0221_01
open PySem PySem.W PySem.Spec PySem.Calls PyProof.Rows
set_option Elab.async false
namespace MineT
set_option maxRecDepth 100000 in
set_option maxHeartbeats 8000000 in
open_top hd for PySem.Challenge.rw_pb0221_01
end MineT
namespace Mine

/-- the worth of units u at a scale s, in units of the sixtieth place -/
def X (u s : Int) : Int := u * 10 ^ (60 - s.toNat)

/-- few enough figures and places -/
structure Lv (n k : Nat) (u s : Int) : Prop where
  hb : u.natAbs ≤ 10 ^ n
  h0 : 0 ≤ s
  h1 : s ≤ k

/-- without noughts at its end -/
def Norm (u s : Int) : Prop := s = 0 ∨ u % 10 ≠ 0

theorem Lv.mono {n k n' k' : Nat} {u s : Int} (h : Lv n k u s) (hn : n ≤ n') (hk : k ≤ k') : Lv n' k' u s :=
  ⟨Nat.le_trans h.hb (Nat.pow_le_pow_right (by decide) hn), h.h0, by have := h.h1; omega⟩

theorem p10_pos (n : Nat) : (0 : Int) < 10 ^ n := Int.pow_pos (by decide)

theorem X_pos {u s : Int} : 0 < X u s ↔ 0 < u := by
  unfold X
  have := p10_pos (60 - s.toNat)
  constructor
  · intro h
    refine Int.not_le.mp fun hu => ?_
    have := Int.mul_nonneg_of_nonpos_of_nonpos (a := u) (b := -(10 ^ (60 - s.toNat))) hu (by omega)
    rw [Int.mul_neg] at this
    omega
  · intro h; exact Int.mul_pos h this

theorem X_neg {u s : Int} : X (-u) s = - X u s := by unfold X; rw [Int.neg_mul]

theorem X_lt0 {u s : Int} : X u s < 0 ↔ u < 0 := by
  have h : 0 < X (-u) s ↔ 0 < -u := X_pos
  rw [X_neg] at h
  omega

theorem X_eq0 {u s : Int} : X u s = 0 ↔ u = 0 := by
  have h1 : 0 < X u s ↔ 0 < u := X_pos
  have h2 : X u s < 0 ↔ u < 0 := X_lt0
  omega

theorem pow10_split {a b : Nat} (h : a ≤ b) : (10 : Int) ^ b = 10 ^ (b - a) * 10 ^ a := by
  rw [← Int.pow_add]; congr 1; omega

/-- units brought to a greater scale -/
theorem X_up {u s t : Int} (h0 : 0 ≤ s) (h1 : s ≤ t) (h2 : t ≤ 60) : X (u * 10 ^ (t - s).toNat) t = X u s := by
  unfold X
  rw [Int.mul_assoc, ← Int.pow_add]
  congr 2
  omega

theorem X_lin {u v s : Int} : X (u + v) s = X u s + X v s := by unfold X; rw [Int.add_mul]
theorem X_sub {u v s : Int} : X (u - v) s = X u s - X v s := by unfold X; rw [Int.sub_mul]

theorem X_inj {u v s : Int} (h : X u s = X v s) : u = v := by
  have : X (u - v) s = 0 := by rw [X_sub]; omega
  have := X_eq0.mp this
  omega
theorem X_lt {u v s : Int} : X u s < X v s ↔ u < v := by
  have h : X (u - v) s < 0 ↔ u - v < 0 := X_lt0
  rw [X_sub] at h
  omega

/-- a nought struck from the end -/
theorem X_strip {u s : Int} (h0 : 0 < s) (h1 : s ≤ 60) (hz : u % 10 = 0) : X (u / 10) (s - 1) = X u s := by
  unfold X
  have e : u = u / 10 * 10 := by omega
  have e2 : 60 - (s - 1).toNat = (60 - s.toNat) + 1 := by omega
  rw [e2, Int.pow_succ]
  conv => rhs; rw [e]
  rw [Int.mul_assoc, Int.mul_comm (10 ^ _) 10]

/-- two without noughts at their ends and of one worth are one -/
theorem norm_inj {u s v t : Int} (hs : 0 ≤ s) (hs' : s ≤ 60) (ht : 0 ≤ t) (ht' : t ≤ 60) (hu : Norm u s) (hv : Norm v t) (h : X u s = X v t) : u = v ∧ s = t := by
  have key : ∀ {u s v t : Int}, 0 ≤ s → s < t → t ≤ 60 → X u s = X v t → v % 10 = 0 := by
    intro u s v t hs hst ht h
    have e := X_up (u := u) hs (Int.le_of_lt hst) ht
    rw [h] at e
    have e' := X_inj e
    obtain ⟨k, hk⟩ : ∃ k, (t - s).toNat = k + 1 := ⟨(t - s).toNat - 1, by omega⟩
    rw [hk, Int.pow_succ, ← Int.mul_assoc] at e'
    omega
  rcases Int.lt_trichotomy s t with c | c | c
  · exfalso
    have := key hs c ht' h
    rcases hv with hv | hv
    · omega
    · exact hv this
  · subst c
    exact ⟨X_inj h, rfl⟩
  · exfalso
    have := key ht c hs' h.symm
    rcases hu with hu | hu
    · omega
    · exact hu this

/-- what compare says -/
def Cm (r x y : Int) : Prop := (x < y → r = -1) ∧ (x = y → r = 0) ∧ (x > y → r = 1)

def mx (a b : Int) : Int := if b > a then b else a
theorem mx_l {a b : Int} : a ≤ (if b > a then b else a) := by split <;> omega
theorem mx_r {a b : Int} : b ≤ (if b > a then b else a) := by split <;> omega
theorem mx_le {a b c : Int} (h : a ≤ c) (k : b ≤ c) : (if b > a then b else a) ≤ c := by split <;> omega
section
variable {u s v t : Int} {n k : Nat} (lx : Lv n k u s) (ly : Lv n k v t) (hk : k ≤ 60)
include lx ly hk
theorem X_l : X (u * 10 ^ ((if t > s then t else s) - s).toNat) (if t > s then t else s) = X u s :=
  X_up lx.h0 mx_l (mx_le (by have := lx.h1; omega) (by have := ly.h1; omega))
theorem X_r : X (v * 10 ^ ((if t > s then t else s) - t).toNat) (if t > s then t else s) = X v t :=
  X_up ly.h0 mx_r (mx_le (by have := lx.h1; omega) (by have := ly.h1; omega))
theorem cm_eq (h : u * 10 ^ ((if t > s then t else s) - s).toNat = v * 10 ^ ((if t > s then t else s) - t).toNat) : Cm 0 (X u s) (X v t) := by
  have e : X u s = X v t := by rw [← X_l lx ly hk, ← X_r lx ly hk, h]
  unfold Cm; omega
theorem cm_lt (h : u * 10 ^ ((if t > s then t else s) - s).toNat < v * 10 ^ ((if t > s then t else s) - t).toNat) : Cm (-1) (X u s) (X v t) := by
  have e : X u s < X v t := by rw [← X_l lx ly hk, ← X_r lx ly hk]; exact X_lt.mpr h
  unfold Cm; omega
theorem cm_gt (h' : u * 10 ^ ((if t > s then t else s) - s).toNat ≠ v * 10 ^ ((if t > s then t else s) - t).toNat) (h : ¬ u * 10 ^ ((if t > s then t else s) - s).toNat < v * 10 ^ ((if t > s then t else s) - t).toNat) : Cm 1 (X u s) (X v t) := by
  have e : X v t < X u s := by rw [← X_l lx ly hk, ← X_r lx ly hk]; exact X_lt.mpr (by omega)
  unfold Cm; omega
end

/-- what holds while noughts are struck -/
structure St (u s u' s' : Int) : Prop where
  h0 : 0 ≤ s'
  h1 : s' ≤ s
  hb : u'.natAbs ≤ u.natAbs
  hx : X u' s' = X u s
theorem St.start {u s : Int} (h : 0 ≤ s) : St u s u s := ⟨h, Int.le_refl _, Nat.le_refl _, rfl⟩
theorem St.step {u s u' s' : Int} (hs : s ≤ 60) (h : St u s u' s') (h1 : 0 < s') (h2 : u'.fmod 10 = 0) : St u s (u'.fdiv 10) (s' - 1) := by
  rw [Int.fmod_eq_emod_of_nonneg _ (by decide)] at h2
  rw [Int.fdiv_eq_ediv_of_nonneg _ (by decide)]
  have := h.h1
  exact ⟨by omega, by omega, by have := h.hb; omega, by rw [X_strip h1 (by omega) h2, h.hx]⟩
theorem St.norm {u' s' : Int} (h : 0 ≤ s') (hn : ¬ (0 < s' ∧ u'.fmod 10 = 0)) : Norm u' s' := by
  rw [Int.fmod_eq_emod_of_nonneg _ (by decide)] at hn
  unfold Norm
  omega

theorem St.down {u sc : Int} (h0 : 0 ≤ sc) (h1 : sc ≤ 60) : ∀ (n : Nat) {k : Int}, (sc - k).toNat = n → k ≤ sc → min sc 0 ≤ k →
    (∀ j : Int, k < j → j ≤ sc → (if 0 < j then if ((PyProof.Rows.accDown (fun _ x => Int.fdiv x 10) sc u j).fmod 10 == 0) = true then true else false else false) = true) →
    St u sc (PyProof.Rows.accDown (fun _ x => Int.fdiv x 10) sc u k) k := by
  intro n
  induction n with
  | zero =>
    intro k hn hk _ _
    have e : k = sc := by omega
    rw [e, PyProof.Rows.accDown_start]
    exact St.start h0
  | succ n ih =>
    intro k hn hk hm hj
    have i := ih (k := k + 1) (by omega) (by omega) (by omega) (fun j a b => hj j (by omega) b)
    have t := hj (k + 1) (by omega) (by omega)
    have e : k = k + 1 - 1 := by omega
    have s := PyProof.Rows.accDown_succ (g := fun (_ : Int) (x : Int) => Int.fdiv x 10) (x₀ := u) (k₀ := sc) (k := k + 1) (by omega)
    rw [← e] at s
    rw [s]
    have p : 0 < k + 1 := by
      refine Decidable.byContradiction fun c => ?_
      rw [if_neg c] at t
      exact Bool.false_ne_true t
    rw [if_pos p] at t
    have z : (PyProof.Rows.accDown (fun _ x => Int.fdiv x 10) sc u (k + 1)).fmod 10 = 0 := by
      refine Decidable.byContradiction fun c => ?_
      rw [if_neg (by simpa using c)] at t
      exact Bool.false_ne_true t
    have r := St.step h1 i p z
    rw [← e] at r
    exact r
theorem St.end {u k : Int} (hk : 0 ≤ k) (h : (if 0 < k then if ((u).fmod 10 == 0) = true then true else false else false) = false) : Norm u k := by
  refine St.norm hk fun ⟨a, b⟩ => ?_
  rw [if_pos a, if_pos (by simpa using b)] at h
  exact Bool.false_ne_true h.symm

theorem mul10_le {u : Int} {n k e : Nat} (h : u.natAbs ≤ 10 ^ n) (he : e ≤ k) : (u * 10 ^ e).natAbs ≤ 10 ^ (n + k) := by
  rw [Int.natAbs_mul, Int.natAbs_pow, Nat.pow_add]
  exact Nat.mul_le_mul h (Nat.pow_le_pow_right (by decide) he)
theorem beside_le {ux sx uy sy : Int} (lx : Lv 25 20 ux sx) (ly : Lv 25 20 uy sy) :
    (ux * 10 ^ ((if sy > sx then sy else sx) - sx).toNat).natAbs ≤ 10 ^ 45 ∧ (uy * 10 ^ ((if sy > sx then sy else sx) - sy).toNat).natAbs ≤ 10 ^ 45 := by
  have a := lx.h0; have b := lx.h1; have c := ly.h0; have d := ly.h1
  exact ⟨mul10_le (k := 20) lx.hb (by split <;> omega), mul10_le (k := 20) ly.hb (by split <;> omega)⟩
theorem plus_out {ux sx uy sy u s : Int} (lx : Lv 25 20 ux sx) (ly : Lv 25 20 uy sy)
    (st : St (ux * 10 ^ ((if sy > sx then sy else sx) - sx).toNat + uy * 10 ^ ((if sy > sx then sy else sx) - sy).toNat) (if sy > sx then sy else sx) u s) :
    Lv 46 20 u s ∧ X u s = X ux sx + X uy sy := by
  obtain ⟨b1, b2⟩ := beside_le lx ly
  have hm := mx_le lx.h1 ly.h1
  refine ⟨⟨?_, st.h0, Int.le_trans st.h1 hm⟩, ?_⟩
  · have := st.hb
    have t := Int.natAbs_add_le (ux * 10 ^ ((if sy > sx then sy else sx) - sx).toNat) (uy * 10 ^ ((if sy > sx then sy else sx) - sy).toNat)
    generalize ux * 10 ^ ((if sy > sx then sy else sx) - sx).toNat = p at *
    generalize uy * 10 ^ ((if sy > sx then sy else sx) - sy).toNat = q at *
    omega
  · rw [st.hx, X_lin, X_l lx ly (by decide), X_r lx ly (by decide)]
theorem minus_out {ux sx uy sy u s : Int} (lx : Lv 25 20 ux sx) (ly : Lv 25 20 uy sy)
    (st : St (ux * 10 ^ ((if sy > sx then sy else sx) - sx).toNat - uy * 10 ^ ((if sy > sx then sy else sx) - sy).toNat) (if sy > sx then sy else sx) u s) :
    Lv 46 20 u s ∧ X u s = X ux sx - X uy sy := by
  obtain ⟨b1, b2⟩ := beside_le lx ly
  have hm := mx_le lx.h1 ly.h1
  refine ⟨⟨?_, st.h0, Int.le_trans st.h1 hm⟩, ?_⟩
  · have := st.hb
    have t := Int.natAbs_sub_le (ux * 10 ^ ((if sy > sx then sy else sx) - sx).toNat) (uy * 10 ^ ((if sy > sx then sy else sx) - sy).toNat)
    generalize ux * 10 ^ ((if sy > sx then sy else sx) - sx).toNat = p at *
    generalize uy * 10 ^ ((if sy > sx then sy else sx) - sy).toNat = q at *
    omega
  · rw [st.hx, X_sub, X_l lx ly (by decide), X_r lx ly (by decide)]
theorem mx_0 {a b : Int} {n k : Nat} {u v : Int} (lx : Lv n k u a) (_ly : Lv n k v b) : 0 ≤ (if b > a then b else a) := by have := lx.h0; split <;> omega
theorem mx_60 {a b : Int} {n : Nat} {u v : Int} (lx : Lv n 20 u a) (ly : Lv n 20 v b) : (if b > a then b else a) ≤ 60 := by have := lx.h1; have := ly.h1; split <;> omega
/-- half of it -/
theorem half_out {ux sx u s : Int} (lx : Lv 46 20 ux sx) (st : St (ux * 5) (sx + 1) u s) : Lv 47 21 u s ∧ 2 * X u s = X ux sx := by
  have a := lx.h0; have b := lx.h1; have c := lx.hb
  refine ⟨⟨?_, st.h0, by have := st.h1; omega⟩, ?_⟩
  · have := st.hb; omega
  · rw [st.hx]
    unfold X
    have e : 60 - sx.toNat = (60 - (sx + 1).toNat) + 1 := by omega
    rw [e, Int.pow_succ]
    generalize (10 : Int) ^ (60 - (sx + 1).toNat) = p
    rw [Int.mul_comm ux 5, Int.mul_comm p 10, ← Int.mul_assoc ux, Int.mul_comm ux 10, ← Int.mul_assoc 2, ← Int.mul_assoc 2]
    rfl
theorem times_le {ux sx : Int} (lx : Lv 46 20 ux sx) : (ux * 5).natAbs ≤ 10 ^ 47 := by have := lx.hb; omega

theorem fitsT {u : Int} (h : u.natAbs ≤ 10 ^ 47) : decide ((if u < 0 then -u else u) < 10 ^ Int.toNat 120) = true := by
  have e : (10 : Int) ^ Int.toNat 120 = ((10 ^ 120 : Nat) : Int) := by rw [Int.natCast_pow]; rfl
  rw [e]
  have k : (10 : Nat) ^ 47 < 10 ^ 120 := by decide
  refine decide_eq_true ?_
  generalize (10 : Nat) ^ 120 = q at k ⊢
  generalize (10 : Nat) ^ 47 = p at k h
  split <;> omega

theorem bits_of_natAbs {a : Int} {k : Nat} (h : a.natAbs ≤ 10 ^ k) : Builtin.Int.intBits a ≤ 4 * k + 1 := by
  refine Nat.le_trans (intBits_le_iff.mpr (Nat.lt_of_le_of_lt h (?_ : 10 ^ k < 2 ^ (4 * k + 1)))) (Nat.le_refl _)
  have : (10 : Nat) ^ k ≤ 16 ^ k := Nat.pow_le_pow_left (by decide) k
  have e : (16 : Nat) ^ k = 2 ^ (4 * k) := by rw [Nat.pow_mul]
  rw [Nat.pow_succ]
  have : 0 < (2 : Nat) ^ (4 * k) := Nat.pow_pos (by decide)
  omega

theorem mulOk {a b : Int} {n k : Nat} (ha : a.natAbs ≤ 10 ^ n) (hb : b.natAbs ≤ 10 ^ k) (hn : n + k ≤ 1000) : IntMulOk a b := by
  have h1 := bits_of_natAbs ha
  have h2 := bits_of_natAbs hb
  unfold IntMulOk
  have : Builtin.Int.intTooBig (Builtin.Int.intBits a + Builtin.Int.intBits b) = false := by
    unfold Builtin.Int.intTooBig
    refine decide_eq_false ?_
    have e : bitsLine = 134217728 := by decide
    rw [e]
    omega
  rw [this]
  simp

theorem natAbs_pow10 (k : Nat) : ((10 : Int) ^ k).natAbs ≤ 10 ^ k := by rw [Int.natAbs_pow]; exact Nat.le_refl _
theorem newsTl {h₀ h : Heap} {L : Addr} {q : Addr × Obj} {l : List (Addr × Obj)} (N : PyProof.Rows.News h₀ L h (q :: l)) : PyProof.Rows.News h₀ L h l := fun p hp => N p (.tail _ hp)
theorem newsTl2 {h₀ h : Heap} {L : Addr} {q r : Addr × Obj} {l : List (Addr × Obj)} (N : PyProof.Rows.News h₀ L h (r :: q :: l)) : PyProof.Rows.News h₀ L h (r :: l) := fun p hp => N p ((List.mem_cons.mp hp).elim (fun e => e ▸ .head _) fun h => .tail _ (.tail _ h))

abbrev tupO (u s : Int) (tu ts : Tok) (n : Nat) : Obj := { cls := .type "tuple", data := .seq #[.int u tu, .int s ts] n }
abbrev tup3 (u v s : Int) (tu tv ts : Tok) (n : Nat) : Obj := { cls := .type "tuple", data := .seq #[.int u tu, .int v tv, .int s ts] n }
noncomputable abbrev prg : Program := PySem.Challenge.rw_pb0221_01.row.prog
noncomputable abbrev lse : List Str := looseW MineT.hd.view_39 [Str.ofString "LedgerError", Str.ofString "decimal"]

section
variable {w : World} {mean : ExcName → Option Value} {mg mb : Str → Option Value} {dp un : Nat} {gd : Option (List Code)} {cn : Str} {cs : Scope} {a : Addr} {ccd : Value} {cl : List (Str × Addr)} {outer : List Env} {A₀ : Around} {base h₀ : Heap} {L : Addr} {m : Str → Option Value} {news : List (Addr × Obj)} {s : Shared} {Q E : Value → Shared → Prop}
variable (B : Below A₀ base outer h₀) (F : Fr h₀ L s.heap m) (X : (MineT.hd.heap_39 w.params).In h₀) (N : News h₀ L s.heap news) (T : Top MineT.hd.view_39 lse mean mg mb h₀) (hk : cs.kind = .function)
include B F X N T hk

local macro_rules | `(tactic| walk_at "binaryOp Mult int int") => `(tactic| (k_here; (with_reducible show wpAny _ _ (binaryOp Operator.Mult (Value.int _ _) (Value.int _ _)) _ _ _); refine mul_int ?_ (Mine.mulOk (n := 47) (Mine.Lv.hb (k := 21) (by with_reducible assumption)) (Mine.natAbs_pow10 _) (by split <;> omega))))
local macro_rules | `(tactic| walk_at "binaryOp Pow int int") => `(tactic| (k_here; (with_reducible refine pow_int_small ?kb1 ?kb2 ?kb3 ?_); (case kb1 => (first | omega | (split <;> omega))); (case kb2 => (first | omega | (split <;> omega))); (case kb3 => decide)))

set_option maxRecDepth 100000 in
set_option maxHeartbeats 8000000 in
theorem ub_rule {x y : Addr} {ux sx uy sy : Int} {t1 t2 t3 t4 : Tok} {n1 n2 : Nat}
  (hx : (x, tupO ux sx t1 t2 n1) ∈ news) (hy : (y, tupO uy sy t3 t4 n2) ∈ news)
  (lx : Lv 47 21 ux sx) (ly : Lv 47 21 uy sy)
  (hdp : dp + 2 < recursionLimit)
  (ret : ∀ D t1 t2 t3 c h tk, Fr h₀ L h m → News h₀ L h ((D, tup3 (ux * 10 ^ ((if sy > sx then sy else sx) - sx).toNat) (uy * 10 ^ ((if sy > sx then sy else sx) - sy).toNat) (if sy > sx then sy else sx) t1 t2 t3 c) :: news) → AllLt D news → Q (.ref D) { s with heap := h, toks := tk }) :
  wpAny (model prg w) (ktrTop dp un gd cn cs L a ccd cl outer) (call (.ref 84) [.ref x, .ref y]) Q E s := by
  have lx0 := lx.h0; have lx1 := lx.h1; have ly0 := ly.h0; have ly1 := ly.h1
  refine wpAny_call ?_
  k_dflt ktr_enter
  k_steps
  exact ret _ _ _ _ _ _ _ (by with_reducible assumption) (by with_reducible assumption) (allLt_of (by with_reducible assumption))

local macro_rules | `(tactic| walk_at "call ref") => `(tactic| (k_here; (with_reducible show wpAny _ _ (call (Value.ref 84) [Value.ref _, Value.ref _]) _ _ _); k_dflt (refine' ub_rule ?k1 ?k2 ?k3 ?k4 ?k5 ?kK ?kx ?ky ?lx ?ly ?kd ?_; (case k1 => k_asm); (case k2 => k_asm); (case k3 => k_asm); (case k4 => k_asm); (case k5 => k_asm); (case kK => (first | exact rfl | assumption)); (case kx => k_mem); (case ky => k_mem); (case lx => assumption); (case ly => assumption); (case kd => ktr_room); k_whole); intro D' t1' t2' t3' c' h' tk' F' N' l'))

set_option maxRecDepth 100000 in
set_option maxHeartbeats 8000000 in
theorem cmp_rule {x y : Addr} {ux sx uy sy : Int} {t1 t2 t3 t4 : Tok} {n1 n2 : Nat}
  (hx : (x, tupO ux sx t1 t2 n1) ∈ news) (hy : (y, tupO uy sy t3 t4 n2) ∈ news)
  (lx : Lv 47 21 ux sx) (ly : Lv 47 21 uy sy)
  (hdp : dp + 4 < recursionLimit)
  (ret : ∀ r t h tk, Cm r (Mine.X ux sx) (Mine.X uy sy) → Fr h₀ L h m → News h₀ L h news → Q (.int r t) { s with heap := h, toks := tk }) :
  wpAny (model prg w) (ktrTop dp un gd cn cs L a ccd cl outer) (call (.ref 119) [.ref x, .ref y]) Q E s := by
  refine wpAny_call ?_
  k_dflt ktr_enter
  k_steps
  all_goals ((rename News _ _ _ _ => kN'); first
    | exact ret _ _ _ _ (Mine.cm_eq lx ly (by decide) (by with_reducible assumption)) (by with_reducible assumption) (Mine.newsTl kN')
    | exact ret _ _ _ _ (Mine.cm_lt lx ly (by decide) (by with_reducible assumption)) (by with_reducible assumption) (Mine.newsTl kN')
    | exact ret _ _ _ _ (Mine.cm_gt lx ly (by decide) (by with_reducible assumption) (by with_reducible assumption)) (by with_reducible assumption) (Mine.newsTl kN'))

set_option maxRecDepth 100000 in
set_option maxHeartbeats 8000000 in
theorem dec_rule {u sc : Int} {t1 t2 : Tok} (h0 : 0 ≤ sc) (h1 : sc ≤ 60)
  (hdp : dp + 2 < recursionLimit)
  (ret : ∀ u' s' D t1 t2 c h tk, St u sc u' s' → Norm u' s' → Fr h₀ L h m → News h₀ L h ((D, tupO u' s' t1 t2 c) :: news) → AllLt D news → Q (.ref D) { s with heap := h, toks := tk }) :
  wpAny (model prg w) (ktrTop dp un gd cn cs L a ccd cl outer) (call (.ref 70) [.int u t1, .int sc t2]) Q E s := by
  refine wpAny_call ?_
  k_dflt (refine' code_def ?k1 ?k2 ?k3 ?k4 ?k5 ?kA ?kF ?kK ?k6 ?k7 ?k8 ?k9 ?kB ?_ ?c2 ?c3 ?c4 ?c5; (case kA => exact rfl); (case kF => exact rfl); (case kK => assumption); (case k1 => k_asm); (case k2 => k_asm); (case k3 => k_asm); (case k4 => k_asm); (case k5 => k_asm); (case k6 => k_is); (case k7 => k_is); (case k8 => ktr_room); (case k9 => exact binds_K (by k_in) rfl (by k_is) rfl rfl rfl); (case c5 => decide); (case kB => exact locs rfl); (case c2 => exact rfl); (case c3 => exact rfl); (case c4 => exact rfl); k_whole; intro g' L' h' FG' F' N' B' X' T'; (try dsimp only); (try k_fold))
  k_steps
  rename_i k _ _ _ _ a4 a3 a2 a1 _ _ _ _ _ l1 kF kN _ _
  have hS := Mine.St.down h0 h1 _ rfl a4 a3 a2
  exact ret _ _ _ _ _ _ _ _ hS (Mine.St.end hS.h0 a1) kF kN (allLt_of l1)
local macro_rules | `(tactic| walk_at "call ref") => `(tactic| (k_here; (with_reducible show wpAny _ _ (call (Value.ref 70) [Value.int _ _, Value.int _ _]) _ _ _); k_dflt (refine' dec_rule ?k1 ?k2 ?k3 ?k4 ?k5 ?kK ?h0 ?h1 ?kd ?_; (case k1 => k_asm); (case k2 => k_asm); (case k3 => k_asm); (case k4 => k_asm); (case k5 => k_asm); (case kK => (first | exact rfl | assumption)); (case h0 => first | assumption | omega); (case h1 => first | assumption | omega); (case kd => ktr_room); k_whole); intro u' s' D' t1' t2' c' h' tk' hS' hN' F' N' l'))

set_option maxRecDepth 100000 in
set_option maxHeartbeats 8000000 in
theorem plus_rule {x y : Addr} {ux sx uy sy : Int} {t1 t2 t3 t4 : Tok} {n1 n2 : Nat}
  (hx : (x, tupO ux sx t1 t2 n1) ∈ news) (hy : (y, tupO uy sy t3 t4 n2) ∈ news)
  (lx : Lv 25 20 ux sx) (ly : Lv 25 20 uy sy)
  (hdp : dp + 4 < recursionLimit)
  (ret : ∀ u v D t1 t2 c h tk, Lv 46 20 u v → Norm u v → Mine.X u v = Mine.X ux sx + Mine.X uy sy → Fr h₀ L h m → News h₀ L h ((D, tupO u v t1 t2 c) :: news) → AllLt D news → Q (.ref D) { s with heap := h, toks := tk }) :
  wpAny (model prg w) (ktrTop dp un gd cn cs L a ccd cl outer) (call (.ref 91) [.ref x, .ref y]) Q E s := by
  have lx' := lx.mono (n' := 47) (k' := 21) (by decide) (by decide)
  have ly' := ly.mono (n' := 47) (k' := 21) (by decide) (by decide)
  have m0 := Mine.mx_0 lx ly
  have m1 := Mine.mx_60 lx ly
  refine wpAny_call ?_
  k_dflt ktr_enter
  k_steps
  (rename Mine.St _ _ _ _ => hS'); (rename Norm _ _ => hN'); (rename News _ _ _ _ => kN'); (rename AllLt _ _ => l'); (rename Fr _ _ _ _ => kF')
  obtain ⟨o1, o2⟩ := Mine.plus_out lx ly hS'
  exact ret _ _ _ _ _ _ _ _ o1 hN' o2 kF' (Mine.newsTl2 kN') l'.2

set_option maxRecDepth 100000 in
set_option maxHeartbeats 8000000 in
theorem minus_rule {x y : Addr} {ux sx uy sy : Int} {t1 t2 t3 t4 : Tok} {n1 n2 : Nat}
  (hx : (x, tupO ux sx t1 t2 n1) ∈ news) (hy : (y, tupO uy sy t3 t4 n2) ∈ news)
  (lx : Lv 25 20 ux sx) (ly : Lv 25 20 uy sy)
  (hdp : dp + 4 < recursionLimit)
  (ret : ∀ u v D t1 t2 c h tk, Lv 46 20 u v → Norm u v → Mine.X u v = Mine.X ux sx - Mine.X uy sy → Fr h₀ L h m → News h₀ L h ((D, tupO u v t1 t2 c) :: news) → AllLt D news → Q (.ref D) { s with heap := h, toks := tk }) :
  wpAny (model prg w) (ktrTop dp un gd cn cs L a ccd cl outer) (call (.ref 98) [.ref x, .ref y]) Q E s := by
  have lx' := lx.mono (n' := 47) (k' := 21) (by decide) (by decide)
  have ly' := ly.mono (n' := 47) (k' := 21) (by decide) (by decide)
  have m0 := Mine.mx_0 lx ly
  have m1 := Mine.mx_60 lx ly
  refine wpAny_call ?_
  k_dflt ktr_enter
  k_steps
  (rename Mine.St _ _ _ _ => hS'); (rename Norm _ _ => hN'); (rename News _ _ _ _ => kN'); (rename AllLt _ _ => l'); (rename Fr _ _ _ _ => kF')
  obtain ⟨o1, o2⟩ := Mine.minus_out lx ly hS'
  exact ret _ _ _ _ _ _ _ _ o1 hN' o2 kF' (Mine.newsTl2 kN') l'.2

set_option maxRecDepth 100000 in
set_option maxHeartbeats 8000000 in
theorem neg_rule {x : Addr} {ux sx : Int} {t1 t2 : Tok} {n1 : Nat}
  (hx : (x, tupO ux sx t1 t2 n1) ∈ news)
  (hdp : dp + 2 < recursionLimit)
  (ret : ∀ D t1 t2 c h tk, Fr h₀ L h m → News h₀ L h ((D, tupO (-ux) sx t1 t2 c) :: news) → AllLt D news → Q (.ref D) { s with heap := h, toks := tk }) :
  wpAny (model prg w) (ktrTop dp un gd cn cs L a ccd cl outer) (call (.ref 112) [.ref x]) Q E s := by
  refine wpAny_call ?_
  k_dflt ktr_enter
  k_steps
  (rename News _ _ _ _ => kN'); (rename Fr _ _ _ _ => kF')
  exact ret _ _ _ _ _ _ kF' kN' (allLt_of (by with_reducible assumption))

set_option maxRecDepth 100000 in
set_option maxHeartbeats 8000000 in
theorem fits_rule {u : Int} {t1 t2 : Tok}
  (hu : u.natAbs ≤ 10 ^ 47)
  (hdp : dp + 2 < recursionLimit)
  (ret : ∀ h tk, Fr h₀ L h m → News h₀ L h news → Q (.bool true) { s with heap := h, toks := tk }) :
  wpAny (model prg w) (ktrTop dp un gd cn cs L a ccd cl outer) (call (.ref 126) [.int u t1, .int 120 t2]) Q E s := by
  refine wpAny_call ?_
  k_dflt ktr_enter
  k_steps
  (rename News _ _ _ _ => kN'); (rename Fr _ _ _ _ => kF')
  rw [Mine.fitsT hu]
  exact ret _ _ kF' kN'

local macro_rules | `(tactic| walk_at "call ref") => `(tactic| (k_here; (with_reducible show wpAny _ _ (call (Value.ref 126) [Value.int _ _, Value.int _ _]) _ _ _); k_dflt (refine' fits_rule ?k1 ?k2 ?k3 ?k4 ?k5 ?kK ?h0 ?kd ?_; (case k1 => k_asm); (case k2 => k_asm); (case k3 => k_asm); (case k4 => k_asm); (case k5 => k_asm); (case kK => (first | exact rfl | assumption)); (case h0 => assumption); (case kd => ktr_room); k_whole); intro h' tk' F' N'))

set_option maxRecDepth 100000 in
set_option maxHeartbeats 8000000 in
theorem kept_rule {u sc : Int} {t1 t2 : Tok}
  (hu : u.natAbs ≤ 10 ^ 47) (h0 : 0 ≤ sc) (h1 : sc ≤ 21)
  (hdp : dp + 4 < recursionLimit)
  (ret : ∀ u' s' D t1 t2 c h tk, St u sc u' s' → Norm u' s' → Fr h₀ L h m → News h₀ L h ((D, tupO u' s' t1 t2 c) :: news) → AllLt D news → Q (.ref D) { s with heap := h, toks := tk }) :
  wpAny (model prg w) (ktrTop dp un gd cn cs L a ccd cl outer) (call (.ref 77) [.int u t1, .int sc t2]) Q E s := by
  have h60 : sc ≤ 60 := by omega
  refine wpAny_call ?_
  k_dflt ktr_enter
  k_steps
  (rename Mine.St _ _ _ _ => hS'); (rename Norm _ _ => hN'); (rename News _ _ _ _ => kN'); (rename AllLt _ _ => l'); (rename Fr _ _ _ _ => kF')
  exact ret _ _ _ _ _ _ _ _ hS' hN' kF' kN' l'

local macro_rules | `(tactic| walk_at "call ref") => `(tactic| (k_here; (with_reducible show wpAny _ _ (call (Value.ref 77) [Value.int _ _, Value.int _ _]) _ _ _); k_dflt (refine' kept_rule ?k1 ?k2 ?k3 ?k4 ?k5 ?kK ?hu ?h0 ?h1 ?kd ?_; (case k1 => k_asm); (case k2 => k_asm); (case k3 => k_asm); (case k4 => k_asm); (case k5 => k_asm); (case kK => (first | exact rfl | assumption)); (case hu => assumption); (case h0 => omega); (case h1 => omega); (case kd => ktr_room); k_whole); intro u' s' D' t1' t2' c' h' tk' hS' hN' F' N' l'))

set_option maxRecDepth 100000 in
set_option maxHeartbeats 8000000 in
theorem half_rule {x y : Addr} {ux sx : Int} {t1 t2 t3 t4 : Tok} {n1 n2 : Nat}
  (hx : (x, tupO ux sx t1 t2 n1) ∈ news) (hy : (y, tupO 5 1 t3 t4 n2) ∈ news)
  (lx : Lv 46 20 ux sx)
  (hdp : dp + 6 < recursionLimit)
  (ret : ∀ u v D t1 t2 c h tk, Lv 47 21 u v → Norm u v → 2 * Mine.X u v = Mine.X ux sx → Fr h₀ L h m → News h₀ L h ((D, tupO u v t1 t2 c) :: news) → AllLt D news → Q (.ref D) { s with heap := h, toks := tk }) :
  wpAny (model prg w) (ktrTop dp un gd cn cs L a ccd cl outer) (call (.ref 105) [.ref x, .ref y]) Q E s := by
  have lx0 := lx.h0
  have lx1 := lx.h1
  have lx2 := Mine.times_le lx
  refine wpAny_call ?_
  k_dflt ktr_enter
  k_steps
  (rename Mine.St _ _ _ _ => hS'); (rename Norm _ _ => hN'); (rename News _ _ _ _ => kN'); (rename AllLt _ _ => l'); (rename Fr _ _ _ _ => kF')
  obtain ⟨o1, o2⟩ := Mine.half_out lx hS'
  exact ret _ _ _ _ _ _ _ _ o1 hN' o2 kF' kN' l'
end

/-- where the walk is to rest -/
def Rest (p : Prop) : Prop := p
theorem Rest.mk {p : Prop} (h : Rest p) : p := h
theorem Rest.of {p : Prop} (h : p) : Rest p := h

/-- a decimal of the ledger -/
inductive Dec (news : List (Addr × Obj)) (n k : Nat) : Value → Int × Int → Prop
  | mk {a : Addr} {d : Int × Int} {t1 t2 : Tok} {c : Nat} : (a, tupO d.1 d.2 t1 t2 c) ∈ news → Lv n k d.1 d.2 → Dec news n k (.ref a) d
theorem Dec.mono {news news' : List (Addr × Obj)} {n k : Nat} {v : Value} {d : Int × Int} (h : Dec news n k v d) (hs : ∀ p ∈ news, p ∈ news') : Dec news' n k v d := by
  cases h with
  | mk a b => exact .mk (hs _ a) b
theorem Dec.lv {news : List (Addr × Obj)} {n k n' k' : Nat} {v : Value} {d : Int × Int} (h : Dec news n k v d) (hn : n ≤ n') (hk : k ≤ k') : Dec news n' k' v d := by
  cases h with
  | mk a b => exact .mk a (b.mono hn hk)
theorem Dec.is {news : List (Addr × Obj)} {n k : Nat} {v : Value} {d : Int × Int} (h : Dec news n k v d) : ∃ a t1 t2 c, v = .ref a ∧ (a, tupO d.1 d.2 t1 t2 c) ∈ news ∧ Lv n k d.1 d.2 := by
  cases h with
  | mk a b => exact ⟨_, _, _, _, rfl, a, b⟩

/-- a list of decimals of the ledger -/
def Decs (news : List (Addr × Obj)) (n k : Nat) : List Value → List (Int × Int) → Prop
  | [], [] => True
  | v :: vs, d :: ds => Dec news n k v d ∧ Decs news n k vs ds
  | _, _ => False
section
variable {news news' : List (Addr × Obj)} {n k : Nat}
theorem Decs.mono : ∀ {vs : List Value} {ds : List (Int × Int)}, Decs news n k vs ds → (∀ p ∈ news, p ∈ news') → Decs news' n k vs ds
  | [], [], _, _ => trivial
  | _ :: _, _ :: _, h, hs => ⟨h.1.mono hs, h.2.mono hs⟩
  | [], _ :: _, h, _ => h.elim
  | _ :: _, [], h, _ => h.elim
theorem Decs.lv {n' k' : Nat} (hn : n ≤ n') (hk : k ≤ k') : ∀ {vs : List Value} {ds : List (Int × Int)}, Decs news n k vs ds → Decs news n' k' vs ds
  | [], [], _ => trivial
  | _ :: _, _ :: _, h => ⟨h.1.lv hn hk, h.2.lv hn hk⟩
  | [], _ :: _, h => h.elim
  | _ :: _, [], h => h.elim
theorem Decs.length : ∀ {vs : List Value} {ds : List (Int × Int)}, Decs news n k vs ds → vs.length = ds.length
  | [], [], _ => rfl
  | _ :: _, _ :: _, h => by rw [List.length_cons, List.length_cons, h.2.length]
  | [], _ :: _, h => h.elim
  | _ :: _, [], h => h.elim
theorem Decs.append : ∀ {vs ws : List Value} {ds es : List (Int × Int)}, Decs news n k vs ds → Decs news n k ws es → Decs news n k (vs ++ ws) (ds ++ es)
  | [], _, [], _, _, g => g
  | _ :: _, _, _ :: _, _, h, g => ⟨h.1, h.2.append g⟩
  | [], _, _ :: _, _, h, _ => h.elim
  | _ :: _, _, [], _, h, _ => h.elim
theorem Decs.take : ∀ (i : Nat) {vs : List Value} {ds : List (Int × Int)}, Decs news n k vs ds → Decs news n k (vs.take i) (ds.take i)
  | 0, _, _, _ => trivial
  | _ + 1, [], [], _ => trivial
  | i + 1, _ :: _, _ :: _, h => ⟨h.1, h.2.take i⟩
  | _ + 1, [], _ :: _, h => h.elim
  | _ + 1, _ :: _, [], h => h.elim
theorem Decs.drop : ∀ (i : Nat) {vs : List Value} {ds : List (Int × Int)}, Decs news n k vs ds → Decs news n k (vs.drop i) (ds.drop i)
  | 0, _, _, h => h
  | _ + 1, [], [], _ => trivial
  | i + 1, _ :: _, _ :: _, h => h.2.drop i
  | _ + 1, [], _ :: _, h => h.elim
  | _ + 1, _ :: _, [], h => h.elim
theorem Decs.get : ∀ (i : Nat) {vs : List Value} {ds : List (Int × Int)} {v : Value}, Decs news n k vs ds → vs[i]? = some v → ∃ d, ds[i]? = some d ∧ Dec news n k v d
  | 0, v :: _, d :: _, _, h, e => ⟨d, rfl, by have : v = _ := Option.some.inj e; rw [← this]; exact h.1⟩
  | i + 1, _ :: _, _ :: _, _, h, e => Decs.get i h.2 e
  | _, [], _, _, _, e => by cases e
  | _, _ :: _, [], _, h, _ => h.elim
theorem Decs.at {i : Nat} {vs : List Value} {ds : List (Int × Int)} (h : Decs news n k vs ds) (hi : i < ds.length) : ∃ v d, vs[i]? = some v ∧ ds[i]? = some d ∧ Dec news n k v d := by
  have hv : i < vs.length := by rw [h.length]; exact hi
  obtain ⟨d, e, hd⟩ := h.get i (List.getElem?_eq_getElem hv)
  exact ⟨_, d, List.getElem?_eq_getElem hv, e, hd⟩
end
/-- a decimal's worth -/
def Wd (d : Int × Int) : Int := X d.1 d.2
/-- the worths of the first i are below w -/
def UpTo (ds : List (Int × Int)) (i : Nat) (w : Int) : Prop := ∀ j d, j < i → ds[j]? = some d → Wd d < w

section
variable {prog : Program} {w : World} {A : Around} {E : Value → Shared → Prop} {s : Shared} {h₀ : Heap} {L l : Addr} {news : List (Addr × Obj)} {vs : List Value} {ds : List (Int × Int)} {n k c : Nat} {Q : Value → Shared → Prop}
theorem dlen (N : News h₀ L s.heap news) (hl : (l, listOf vs.toArray c) ∈ news) (hd : Decs news n k vs ds) (hz : ds.length ≤ 9)
    (h : Q (.int ds.length (s.toks + 1)) { s with toks := s.toks + 1 + 1 }) : wpAny (model prog w) A (call (.builtin "len") [.ref l]) Q E s := by
  have e : vs.toArray.size = ds.length := by rw [List.size_toArray, hd.length]
  exact len_list ⟨_, (N _ hl).1, rfl, c, rfl⟩ (by rw [e]; omega) (by rw [e]; exact h)
theorem ditem {value slice : PySem.Expr} {i : Int} {u : Tok} (N : News h₀ L s.heap news) (hl : (l, listOf vs.toArray c) ∈ news) (hd : Decs news n k vs ds) (hz : ds.length ≤ 9) (h0 : 0 ≤ i) (h1 : i < ds.length)
    (h : ∀ a ux sx t1 t2 c, ds[i.toNat]? = some (ux, sx) → vs[i.toNat]? = some (.ref a) → (a, tupO ux sx t1 t2 c) ∈ news → Lv n k ux sx → Q (.ref a) s)
    (hs : subscripted slice false (.ref l) (.int i u) = operate [.ref l, .int i u] (getItem (.ref l) (.int i u)) := by with_unfolding_all rfl) :
    wpAny (model prog w) A (subscriptTail value slice (.ref l) (.int i u)) Q E s := by
  obtain ⟨v, d, e1, e2, hD⟩ := hd.at (i := i.toNat) (by omega)
  cases hD with
  | mk hm lv =>
    have hl' : s.heap.IsList l vs.toArray := ⟨_, (N _ hl).1, rfl, c, rfl⟩
    exact tail_any hl'.typeIs slot_list_getitem.lookup (wpAny_getItem_list hl' h0 (by omega) (by simpa using e1) (h _ _ _ _ _ _ e2 e1 hm lv)) hs
end
theorem UpTo.step {ds : List (Int × Int)} {i : Int} {x : Int} {d : Int × Int} (h : UpTo ds i.toNat x) (h0 : 0 ≤ i) (hd : ds[i.toNat]? = some d) (hx : Wd d < x) : UpTo ds (i + 1).toNat x := by
  intro j d' hj hd'
  by_cases c : j = i.toNat
  · rw [c, hd] at hd'
    cases hd'
    exact hx
  · exact h j d' (by omega) hd'
theorem Cm.lt {r x y : Int} (h : Cm r x y) (hr : r < 0) : x < y := by
  unfold Cm at h
  omega
theorem Cm.ge {r x y : Int} (h : Cm r x y) (hr : ¬ r < 0) : y ≤ x := by
  unfold Cm at h
  omega
theorem newsTop {h₀ h : Heap} {L : Addr} {a b c d e : Addr × Obj} {l : List (Addr × Obj)} (N : PyProof.Rows.News h₀ L h (a :: b :: c :: d :: e :: l)) : PyProof.Rows.News h₀ L h (a :: l) := fun p hp =>
  N p ((List.mem_cons.mp hp).elim (fun e => e ▸ .head _) fun h => .tail _ (.tail _ (.tail _ (.tail _ (.tail _ h)))))
theorem cat_eq (a b : List Value) : a.toArray.toList ++ b.toArray.toList = a ++ b := rfl
theorem pick_to {vs : List Value} {i : Int} (h0 : 0 ≤ i) : kms_pick vs.toArray.toList none (some i) = vs.take i.toNat := by
  unfold kms_pick kms_lo kms_hi
  simp only [if_neg (show ¬ i < 0 by omega)]
  simp only [List.drop_zero, Nat.sub_zero, kmk_take_min]
theorem pick_from {vs : List Value} {i : Int} (h0 : 0 ≤ i) : kms_pick vs.toArray.toList (some i) none = vs.drop i.toNat := by
  unfold kms_pick kms_lo kms_hi
  simp only [if_neg (show ¬ i < 0 by omega)]
  rw [kmk_drop_min, List.take_of_length_le (by rw [List.length_drop]; omega)]

section
variable {w : World} {mean : ExcName → Option Value} {mg mb : Str → Option Value} {dp un : Nat} {gd : Option (List Code)} {cn : Str} {cs : Scope} {a : Addr} {ccd : Value} {cl : List (Str × Addr)} {outer : List Env} {A₀ : Around} {base h₀ : Heap} {L : Addr} {m : Str → Option Value} {news : List (Addr × Obj)} {s : Shared} {Q E : Value → Shared → Prop}
variable (B : Below A₀ base outer h₀) (F : Fr h₀ L s.heap m) (X : (MineT.hd.heap_39 w.params).In h₀) (N : News h₀ L s.heap news) (T : Top MineT.hd.view_39 lse mean mg mb h₀) (hk : cs.kind = .function)
include B F X N T hk

local macro_rules | `(tactic| k_mem) => `(tactic| first | assumption | (refine List.mem_cons_of_mem _ ?_; k_mem) | (refine List.mem_append.mpr (Or.inl ?_); k_mem) | (refine List.mem_append.mpr (Or.inr ?_); k_mem))
local macro_rules | `(tactic| walk_at "exec While BoolOp cons nil") => `(tactic| (refine Mine.Rest.mk ?_))
local macro_rules | `(tactic| walk_at "KswEnd") => `(tactic| (refine Mine.Rest.mk ?_))
local macro_rules | `(tactic| walk_at "call ref") => `(tactic| (k_here; (with_reducible show wpAny _ _ (call (Value.ref 119) [Value.ref _, Value.ref _]) _ _ _); k_dflt (refine' cmp_rule ?k1 ?k2 ?k3 ?k4 ?k5 ?kK ?kx ?ky ?lx ?ly ?kd ?_; (case k1 => k_asm); (case k2 => k_asm); (case k3 => k_asm); (case k4 => k_asm); (case k5 => k_asm); (case kK => (first | exact rfl | assumption)); (case kx => k_mem); (case ky => k_mem); (case lx => assumption); (case ly => assumption); (case kd => ktr_room); k_whole); intro r' t' h' tk' hC' F' N'))
local macro_rules | `(tactic| walk_at "subscriptTail Name Slice ref ref") => `(tactic| (k_here; k_dflt (refine' kms_slice_lit ?F ?N ?l ?p ?q ?e ?_ ?s ?t ?z; (case F => k_asm); (case N => k_asm); (case l => exact News.isList (by k_asm) (by k_mem)); (case p => kmk_part); (case q => kmk_part); (case e => first | exact Mine.pick_to (by assumption) | exact Mine.pick_from (by assumption)); (case s => with_unfolding_all rfl); (case t => kmk_pure); (case z => (rw [List.size_toArray, Mine.Decs.length (by with_reducible assumption), sizeLine_eq]; omega))); intro D' h' F' N' l1; (try k_lt l1); (try k_sweep); (try dsimp only)))
local macro_rules | `(tactic| walk_at "binaryOp Add ref ref") => `(tactic| (k_here; (with_reducible show wpAny _ _ (binaryOp _ (Value.ref _) (Value.ref _)) _ _ _); (have hL9 := Mine.Decs.length (by with_reducible assumption)); k_dflt (refine' kmk_add_lit ?F ?N ?a ?b (Mine.cat_eq _ _) ?_ ?z; (case F => k_asm); (case N => k_asm); (case a => exact News.isList (by k_asm) (by k_mem)); (case b => exact News.isList (by k_asm) (by k_mem)); (case z => (simp only [List.length_append, List.length_take, List.length_drop, List.length_cons, List.length_nil, sizeLine_eq]; omega))); clear hL9; intro D' h' F' N' l1; (try k_lt l1); (try k_sweep); (try dsimp only)))
local macro_rules | `(tactic| walk_at "call builtin:len") => `(tactic| (k_here; (with_reducible show wpAny _ _ (call (Value.builtin "len") [Value.ref _]) _ _ _); k_dflt (refine Mine.dlen (by k_asm) (by k_mem) (by with_reducible assumption) (by with_reducible assumption) ?_)))
local macro_rules | `(tactic| walk_at "subscriptTail Name Name ref int") => `(tactic| (k_here; k_dflt (refine Mine.ditem (by k_asm) (by k_mem) (by with_reducible assumption) (by with_reducible assumption) (by omega) (by omega) ?_ ?_; rotate_left; with_unfolding_all rfl; intro a' u' s' t1' t2' c' hd' hv' hm' lv')))

set_option maxRecDepth 100000 in
set_option maxHeartbeats 8000000 in
theorem put_rule {l x : Addr} {vs : List Value} {ds : List (Int × Int)} {ux sx : Int} {t1 t2 : Tok} {n0 n1 : Nat}
  (hl : (l, listOf vs.toArray n0) ∈ news) (hx : (x, tupO ux sx t1 t2 n1) ∈ news)
  (hd : Decs news 47 21 vs ds) (lx : Lv 47 21 ux sx) (hz : ds.length ≤ 9)
  (hdp : dp + 6 < recursionLimit)
  (ret : ∀ D (i : Nat) n h tk, i ≤ ds.length → UpTo ds i (Mine.X ux sx) → (∀ d, ds[i]? = some d → Mine.X ux sx ≤ Wd d) → Fr h₀ L h m → News h₀ L h ((D, listOf (vs.take i ++ [Value.ref x] ++ vs.drop i).toArray n) :: news) → AllLt D news → Q (.ref D) { s with heap := h, toks := tk }) :
  wpAny (model prg w) (ktrTop dp un gd cn cs L a ccd cl outer) (call (.ref 140) [.ref l, .ref x]) Q E s := by
  refine wpAny_call ?_
  k_dflt ktr_enter
  k_steps
  refine Mine.Rest.of ?_
  (rename Fr _ _ _ _ => kF); (rename News _ _ _ _ => kN)
  refine ksw_while (σ := Int × Tok) (fun _ => news) (fun c => [(Str.ofString "at", .int c.1 c.2)]) (fun _ => True) [] (fun c => 0 ≤ c.1 ∧ c.1.toNat ≤ ds.length ∧ UpTo ds c.1.toNat (Mine.X ux sx)) (fun c => ds.length - c.1.toNat) (0, ?t0) kF kN trivial ?hk ?hp ?turn
  case hk => exact List.forall_mem_cons.mpr ⟨by with_unfolding_all exact rfl, List.forall_mem_nil _⟩
  case hp => exact ⟨Int.le_refl 0, Nat.zero_le _, fun j d h => absurd h (Nat.not_lt_zero _)⟩
  case turn =>
    clear kF kN
    rintro ⟨at', tA⟩ u h9 tk9 - ⟨hA0, hA1, hA2⟩ F9 N9
    dsimp only at hA0 hA1 hA2 F9 N9 ⊢
    k_fold
    k_steps
    · (rename Fr _ _ _ _ => kF); (rename News _ _ _ _ => kN); (rename Cm _ _ _ => hC); (rename _ = some _ => hv'); (rename _ < (0 : Int) => hlt); (rename ds[_]? = some _ => hd9)
      refine Mine.Rest.of (ksw_end (at' + 1, ?t1) kF kN (fun _ hp => hp) trivial ?k1 ?k2 ⟨?k3, ?k4, ?k5⟩ ?k6)
      case k1 => exact List.forall_mem_cons.mpr ⟨by with_unfolding_all exact rfl, List.forall_mem_nil _⟩
      case k2 =>
        intro z h2 _
        have e : z ≠ Str.ofString "at" := h2 _ List.mem_cons_self
        simp only [kstB, List.contains_nil, if_neg e, Bool.false_eq_true, if_false]
      case k3 => show 0 ≤ at' + 1; omega
      case k4 => show (at' + 1).toNat ≤ ds.length; omega
      case k5 => exact hA2.step hA0 hd9 (hC.lt hlt)
      case k6 => show ds.length - (at' + 1).toNat < ds.length - at'.toNat; omega
    · (rename Fr h₀ _ _ _ => kF); (rename News h₀ _ _ _ => kN); (rename Cm _ _ _ => hC); (rename ¬ _ < (0 : Int) => hlt); (rename ds[_]? = some _ => hd9); (rename _ ∧ _ ∧ _ ∧ _ ∧ AllLt _ _ => hA9)
      exact ret _ at'.toNat _ _ _ hA1 hA2 (fun d e => by rw [hd9] at e; cases e; exact hC.ge hlt) kF (Mine.newsTop kN) hA9.2.2.2.2
    · (rename Fr h₀ _ _ _ => kF); (rename News h₀ _ _ _ => kN); (rename _ ∧ _ ∧ _ ∧ _ ∧ AllLt _ _ => hA9)
      exact ret _ at'.toNat _ _ _ hA1 hA2 (fun d e => by rw [List.getElem?_eq_none (by omega)] at e; cases e) kF (Mine.newsTop kN) hA9.2.2.2.2
end

section
variable {prog : Program} {w : World} {A : Around} {E : Value → Shared → Prop} {s : Shared} {h₀ : Heap} {L : Addr} {m : Str → Option Value} {news : List (Addr × Obj)}
/-- extend: the ledger but the list, and the longer list ahead of it -/
theorem ext_rule {D b : Addr} {ys : List Value} {n n2 : Nat} {its2 : Array Value} {Q : Value → Shared → Prop} (F : Fr h₀ L s.heap m) (N : News h₀ L s.heap news)
    (hD : (D, listOf ys.toArray n) ∈ news) (hb : (b, listOf its2 n2) ∈ news) (hz : ys.length + its2.size ≤ 64)
    (h : ∀ h' n', Fr h₀ L h' m → News h₀ L h' ((D, listOf (ys ++ its2.toList).toArray n') :: news.filter fun p => decide (p.1 ≠ D)) → Q .none { s with heap := h' }) :
    wpAny (model prog w) A (call (.builtin "list.extend") [.ref D, .ref b]) Q E s := by
  refine extend_in (n := n) (own := []) (rest := news.filter fun p => decide (p.1 ≠ D)) F (fun p hp => ?_) (fun _ hp => nomatch hp) (fun p hp => by simpa using (List.mem_filter.mp hp).2) (N _ hb).1 (fun h' n' F' N' => h h' n' F' N') (by rw [sizeLine_eq]; omega)
  rcases List.mem_cons.mp hp with rfl | hp
  · exact N _ hD
  · exact N _ (List.mem_filter.mp hp).1
end
section
variable {prog : Program} {w : World} {A : Around} {E : Value → Shared → Prop} {s : Shared} {env : Env} {h₀ : Heap} {x : Str} {body : List Stmt} {Q : Flow → Shared → Prop}
/-- the names but those that are stored hold what they held -/
def Kept (stored : List Str) (m₀ m : Str → Option Value) : Prop := ∀ z, stored.contains z = false → m z = m₀ z
def kmap (stored : List Str) (u m₀ : Str → Option Value) (y : Str) : Option Value := if stored.contains y then u y else m₀ y
theorem Kept.eq {stored : List Str} {m₀ m : Str → Option Value} (h : Kept stored m₀ m) : m = kmap stored m m₀ := by
  funext y
  unfold kmap
  cases hc : stored.contains y with
  | true => simp
  | false => simp only [Bool.false_eq_true, if_false]; exact h y hc
theorem Kept.refl {stored : List Str} {m₀ : Str → Option Value} : Kept stored m₀ m₀ := fun _ _ => rfl
theorem Kept.put {stored : List Str} {m₀ m : Str → Option Value} {x : Str} {v : Option Value} (h : Kept stored m₀ m) (hx : stored.contains x = true) : Kept stored m₀ (fun y => if y = x then v else m y) := by
  intro z hz
  by_cases e : z = x
  · rw [e, hx] at hz; cases hz
  · simp only [if_neg e]; exact h z hz
theorem Kept.kmap {stored : List Str} {m₀ u : Str → Option Value} : Kept stored m₀ (fun y => kmap stored u m₀ y) := by
  intro z hz
  simp only [Mine.kmap, hz, Bool.false_eq_true, if_false]
/-- a turn's end -/
def TEnd (h₀ : Heap) (L : Addr) (stored : List Str) (m₀ : Str → Option Value) (I : List (Addr × Obj) → Prop) (own : List (Addr × Obj)) (s₁ s₂ : Shared) : Prop :=
  ∃ h' tk m' news' nx, s₂ = { s₁ with heap := h', toks := tk } ∧ Fr h₀ L h' m' ∧ News h₀ L h' news' ∧ (∀ p ∈ nx, p ∈ news') ∧ (∀ p ∈ own, p ∈ news') ∧ OwnOff own (nx.map (·.1)) ∧ Kept stored m₀ m' ∧ I nx
def TPost (h₀ : Heap) (L : Addr) (stored : List Str) (m₀ : Str → Option Value) (I : List (Addr × Obj) → Prop) (own : List (Addr × Obj)) (s₁ : Shared) (Q : Flow → Shared → Prop) (f : Flow) (s₂ : Shared) : Prop :=
  match f with
  | .ret v => Q (.ret v) s₂
  | .brk => Q .next s₂
  | _ => TEnd h₀ L stored m₀ I own s₁ s₂
theorem TEnd.intro {L : Addr} {stored : List Str} {m₀ m' : Str → Option Value} {I : List (Addr × Obj) → Prop} {own news' : List (Addr × Obj)} {s₁ : Shared} {h' : Heap} {tk : Nat} (nx : List (Addr × Obj)) (F : Fr h₀ L h' m') (N : News h₀ L h' news')
    (hk : Kept stored m₀ m') (hI : I nx) (ha : OwnOff own (nx.map (·.1))) (hn : ∀ p ∈ nx, p ∈ news') (ho : ∀ p ∈ own, p ∈ news') : TEnd h₀ L stored m₀ I own s₁ { s₁ with heap := h', toks := tk } := ⟨h', tk, m', news', nx, rfl, F, N, hn, ho, ha, hk, hI⟩
theorem TPost.inv {L : Addr} {stored : List Str} {m₀ : Str → Option Value} {I : List (Addr × Obj) → Prop} {own : List (Addr × Obj)} {s₁ : Shared} {f : Flow} {s₂ : Shared}
    (h : TPost h₀ L stored m₀ I own s₁ Q f s₂) : InvPostG h₀ L (fun m' nx => Kept stored m₀ m' ∧ I nx) own s₁ Q f s₂ := by
  cases f with
  | ret v => exact h
  | brk => exact h
  | next => exact h
  | cont => exact h

theorem lst_iter {l : Addr} {vs : List Value} {nn : Nat} {m₀ : Str → Option Value} {news : List (Addr × Obj)} (stored : List Str) (I : Nat → List (Addr × Obj) → Prop)
    (hh : A.handled = none) (hl : (l, listOf vs.toArray nn) ∈ news) (F : Fr h₀ env.locals s.heap m₀) (N : News h₀ env.locals s.heap news) (hi : I 0 news) (hin : ∀ i nx, I i nx → (l, listOf vs.toArray nn) ∈ nx)
    (turn : ∀ i v (u : Str → Option Value) nx h tk own, vs[i]? = some v → OwnOff own (nx.map (·.1)) → I i nx → Fr h₀ env.locals h (fun y => if y = x then some v else kmap stored u m₀ y) → News h₀ env.locals h (nx ++ own) →
      wpAny (model prog w) A (execs body env) (TPost h₀ env.locals stored m₀ (I (i + 1)) own { s with heap := h, toks := tk } Q) E { s with heap := h, toks := tk })
    (done : ∀ (u : Str → Option Value) nx h tk, I vs.length nx → Fr h₀ env.locals h (fun y => kmap stored u m₀ y) → News h₀ env.locals h nx → Q .next { s with heap := h, toks := tk }) :
    wpAny (model prog w) A (pyIter (.ref l)) (fun it s₂ => LoopAtV prog w A h₀ env x body Q E it s₂) E s := by
  refine kdl_iter (fun i m nx => Kept stored m₀ m ∧ I i nx) hh hl F N ⟨Kept.refl, hi⟩ ?_ ?_
  · rintro i v m₁ nx h tk own hv hoff _ ⟨hk, hI⟩ F₁ N₁
    rw [hk.eq] at F₁
    refine wpAny_mono (turn i v m₁ nx h tk own hv hoff hI F₁ N₁) (fun f s₂ p => ?_) fun _ _ e => e
    have q := p.inv
    have up : InvEndG h₀ env.locals (fun m' nx => Kept stored m₀ m' ∧ I (i + 1) nx) own { s with heap := h, toks := tk } s₂ →
        InvEndG h₀ env.locals (fun m' nx => (l, listOf vs.toArray nn) ∈ nx ∧ Kept stored m₀ m' ∧ I (i + 1) nx) own { s with heap := h, toks := tk } s₂ := by
      rintro ⟨h', tk', m', news', nx', e', F', N', hn', ho', ha, hK, hS⟩
      exact ⟨h', tk', m', news', nx', e', F', N', hn', ho', ha, hin _ _ hS, hK, hS⟩
    cases f with
    | ret v => exact q
    | brk => exact q
    | next => exact up q
    | cont => exact up q
  · rintro m₁ nx h tk ⟨hk, hI⟩ F₁ N₁
    rw [hk.eq] at F₁
    exact done m₁ nx h tk hI F₁ N₁
theorem rng_iter {r : Addr} {b : Int} {t₀ u₀ v₀ : Tok} {n : Nat} {m₀ : Str → Option Value} {news : List (Addr × Obj)} (stored : List Str) (I : Nat → List (Addr × Obj) → Prop)
    (hh : A.handled = none) (hr : IsRange s.heap r 0 b 1 t₀ u₀ v₀) (hb : b = (n : Int)) (hs : n ≤ 64) (F : Fr h₀ env.locals s.heap m₀) (N : News h₀ env.locals s.heap news) (hi : I 0 news)
    (turn : ∀ (i : Nat) t (u : Str → Option Value) nx h tk own, i < n → OwnOff own (nx.map (·.1)) → I i nx → Fr h₀ env.locals h (fun y => if y = x then some (.int (i : Int) t) else kmap stored u m₀ y) → News h₀ env.locals h (nx ++ own) →
      wpAny (model prog w) A (execs body env) (TPost h₀ env.locals stored m₀ (I (i + 1)) own { s with heap := h, toks := tk } Q) E { s with heap := h, toks := tk })
    (done : ∀ (u : Str → Option Value) nx h tk, I n nx → Fr h₀ env.locals h (fun y => kmap stored u m₀ y) → News h₀ env.locals h nx → Q .next { s with heap := h, toks := tk }) :
    wpAny (model prog w) A (pyIter (.ref r)) (fun it s₂ => LoopAtV prog w A h₀ env x body Q E it s₂) E s := by
  subst hb
  have hn : Builtin.Range.rangeSize 0 (n : Int) 1 = (n : Int) := by
    unfold Builtin.Range.rangeSize
    split <;> (try split) <;> omega
  refine wpAny_pyIter_range hr (small_one (by decide) (by decide) (by omega) (by omega)) ?_
  have W : Walks prog w A s.heap.objs.size [s.heap.objs.size] [s.heap.objs.size] n (fun i v => i < n ∧ ∃ t, v = .int ((0 : Int) + i * 1) t)
      (fun i h => IsRangeIter h s.heap.objs.size ((0 : Int) + (i : Nat) * 1) ((n : Int) - (i : Nat)) 1) := (Walks.range hh _ 0 1 n).bound
  refine kdr_loop (I := s.heap.objs.size) (n := n) (fun i m nx => Kept stored m₀ m ∧ I i nx) W (fun _ h => h) (fun _ h => h) (fun i h st b hb => ?_) ?_ ?_ ?_ (by show IsRangeIter _ _ _ _ _; rw [hn]; simpa using Heap.get?_push_size _ rfl) (F.push _) (fun p hp => ⟨Heap.get?_push_of_some _ (N p hp).1, (N p hp).2⟩) ⟨Kept.refl, hi⟩ ?_ ?_
  · rw [List.mem_singleton.mp hb]
    exact ⟨_, st⟩
  · intro hm
    exact absurd F.ns.lt ((List.mem_singleton.mp hm) ▸ Nat.lt_irrefl _)
  · intro b hb
    rw [List.mem_singleton.mp hb]
    exact next_is_new F
  · intro p hp hI
    exact absurd (Heap.lt_size (N p hp).1) ((List.mem_singleton.mp hI) ▸ Nat.lt_irrefl _)
  · rintro i v m₁ nx h tk own hin ⟨_, t, rfl⟩ hoff ⟨hk, hI⟩ F₁ N₁
    have e1 : (0 : Int) + (i : Int) * 1 = (i : Int) := by omega
    rw [e1, hk.eq] at F₁
    exact wpAny_mono (turn i t m₁ nx h tk own hin hoff hI F₁ N₁) (fun f s₂ p => p.inv) fun _ _ e => e
  · rintro m₁ nx h tk ⟨hk, hI⟩ F₁ N₁
    rw [hk.eq] at F₁
    exact done m₁ nx h tk hI F₁ N₁
end
theorem sc0 (c : Int) : 0 ≤ c.fmod 21 := Int.fmod_nonneg_of_pos _ (by decide)
theorem sc1 (c : Int) : c.fmod 21 ≤ 60 := by have := Int.fmod_lt_of_pos c (b := 21) (by decide); omega
theorem sc2 (c : Int) : c.fmod 21 ≤ 20 := by have := Int.fmod_lt_of_pos c (b := 21) (by decide); omega
theorem u0 (x : Int) : 0 ≤ x.fmod (10 ^ Int.toNat 25) ∧ x.fmod (10 ^ Int.toNat 25) < ((10 ^ 25 : Nat) : Int) := by
  have e : (10 : Int) ^ Int.toNat 25 = ((10 ^ 25 : Nat) : Int) := by decide
  rw [e]
  exact ⟨Int.fmod_nonneg_of_pos _ (by decide), Int.fmod_lt_of_pos _ (by decide)⟩
theorem uP (x : Int) : (x.fmod (10 ^ Int.toNat 25)).natAbs ≤ 10 ^ 25 := by have := u0 x; omega
theorem uN (x : Int) : (-x.fmod (10 ^ Int.toNat 25)).natAbs ≤ 10 ^ 25 := by have := u0 x; omega
theorem uP1 (x : Int) : (x.fmod (10 ^ Int.toNat 25) + 1).natAbs ≤ 10 ^ 25 := by have := u0 x; omega
theorem uN1 (x : Int) : (-x.fmod (10 ^ Int.toNat 25) + 1).natAbs ≤ 10 ^ 25 := by have := u0 x; omega
theorem lv_of {U sc u s : Int} (h : St U sc u s) (hU : U.natAbs ≤ 10 ^ 25) (h1 : sc ≤ 20) : Lv 25 20 u s := ⟨Nat.le_trans h.hb hU, h.h0, Int.le_trans h.h1 h1⟩
theorem Lv.neg {n k : Nat} {u s : Int} (h : Lv n k u s) : Lv n k (-u) s := ⟨by rw [Int.natAbs_neg]; exact h.hb, h.h0, h.h1⟩
theorem Norm.neg {u s : Int} (h : Norm u s) : Norm (-u) s := by unfold Norm at *; omega
/-- what holds between the turns of the row's making -/
def RowI (news : List (Addr × Obj)) (R : Addr) (i : Nat) (nx : List (Addr × Obj)) : Prop :=
  ∃ vs ds c tl, nx = (R, listOf (List.toArray vs) c) :: (tl ++ news) ∧ Decs tl 25 20 vs ds ∧ (∀ d ∈ ds, Norm d.1 d.2) ∧ ds.length = 3 * i ∧ ∀ p ∈ tl ++ news, p.1 ≠ R
theorem RowI.start {news : List (Addr × Obj)} {R : Addr} (h : ∀ p ∈ news, p.1 < R) : RowI news R 0 ((R, listOf #[] 0) :: news) :=
  ⟨[], [], 0, [], rfl, trivial, (fun _ h => nomatch h), rfl, fun p hp => Nat.ne_of_lt (h p hp)⟩
theorem row_turn {h₀ h' : Heap} {L : Addr} {stored : List Str} {m₀ m' : Str → Option Value} {news own tl led led1 led2 led3 : List (Addr × Obj)} {i : Nat} {R D1 D2 D3 : Addr} {vs : List Value} {ds : List (Int × Int)} {c n' : Nat}
    {u1 s1 u2 s2 u3 s3 : Int} {t1 t2 t3 t4 t5 t6 : Tok} {c1 c2 c3 : Nat} {s₁ : Shared} {tk : Nat}
    (F : Fr h₀ L h' m') (N : News h₀ L h' ((R, listOf (vs ++ #[Value.ref D1, Value.ref D2, Value.ref D3].toList).toArray n') :: led.filter fun p => decide (p.1 ≠ R)))
    (hk : Kept stored m₀ m') (hd : Decs tl 25 20 vs ds) (hn : ∀ d ∈ ds, Norm d.1 d.2) (hl : ds.length = 3 * i) (hne : ∀ p ∈ tl ++ news, p.1 ≠ R)
    (hoff : OwnOff own (((R, listOf vs.toArray c) :: (tl ++ news)).map (·.1)))
    (m1 : (D1, tupO u1 s1 t1 t2 c1) ∈ led) (m2 : (D2, tupO u2 s2 t3 t4 c2) ∈ led) (m3 : (D3, tupO u3 s3 t5 t6 c3) ∈ led)
    (v1 : Lv 25 20 u1 s1) (v2 : Lv 25 20 u2 s2) (v3 : Lv 25 20 u3 s3) (n1 : Norm u1 s1) (n2 : Norm u2 s2) (n3 : Norm u3 s3)
    (a1 : AllLt D1 led1) (a2 : AllLt D2 led2) (a3 : AllLt D3 led3)
    (b : ∀ p ∈ (R, listOf vs.toArray c) :: (tl ++ news ++ own), p ∈ led)
    (b1 : ∀ p ∈ (R, listOf vs.toArray c) :: (tl ++ news ++ own), p ∈ led1) (b2 : ∀ p ∈ (R, listOf vs.toArray c) :: (tl ++ news ++ own), p ∈ led2) (b3 : ∀ p ∈ (R, listOf vs.toArray c) :: (tl ++ news ++ own), p ∈ led3) :
    TEnd h₀ L stored m₀ (RowI news R (i + 1)) own s₁ { s₁ with heap := h', toks := tk } := by
  have lt1 := fun p hp => tb_ltOf a1 p (b1 p hp)
  have lt2 := fun p hp => tb_ltOf a2 p (b2 p hp)
  have lt3 := fun p hp => tb_ltOf a3 p (b3 p hp)
  have hown : ∀ p ∈ own, p ∈ (R, listOf vs.toArray c) :: (tl ++ news ++ own) := fun p hp => .tail _ (List.mem_append.mpr (.inr hp))
  have hold : ∀ p ∈ tl ++ news, p ∈ (R, listOf vs.toArray c) :: (tl ++ news ++ own) := fun p hp => .tail _ (List.mem_append.mpr (.inl hp))
  have f1 : D1 ≠ R := Nat.ne_of_gt (lt1 _ (.head _))
  have f2 : D2 ≠ R := Nat.ne_of_gt (lt2 _ (.head _))
  have f3 : D3 ≠ R := Nat.ne_of_gt (lt3 _ (.head _))
  have keep : ∀ p ∈ led, p.1 ≠ R → p ∈ (R, listOf (vs ++ #[Value.ref D1, Value.ref D2, Value.ref D3].toList).toArray n') :: led.filter fun p => decide (p.1 ≠ R) :=
    fun p hp hR => .tail _ (List.mem_filter.mpr ⟨hp, by simpa using hR⟩)
  have sep : ∀ p ∈ own, p.1 ≠ D1 ∧ p.1 ≠ D2 ∧ p.1 ≠ D3 := fun p hp => ⟨Nat.ne_of_lt (lt1 _ (hown p hp)), Nat.ne_of_lt (lt2 _ (hown p hp)), Nat.ne_of_lt (lt3 _ (hown p hp))⟩
  have sepR : ∀ p ∈ own, p.1 ≠ R := fun p hp => hoff p hp R (.head _)
  refine TEnd.intro ((R, listOf (vs ++ #[Value.ref D1, Value.ref D2, Value.ref D3].toList).toArray n') :: (((D1, tupO u1 s1 t1 t2 c1) :: (D2, tupO u2 s2 t3 t4 c2) :: (D3, tupO u3 s3 t5 t6 c3) :: tl) ++ news)) F N hk ?_ ?_ ?_ ?_
  · refine ⟨vs ++ #[Value.ref D1, Value.ref D2, Value.ref D3].toList, ds ++ [(u1, s1), (u2, s2), (u3, s3)], n', _, rfl, ?_, ?_, ?_, ?_⟩
    · refine (hd.mono fun p hp => .tail _ (.tail _ (.tail _ hp))).append ⟨.mk (d := (u1, s1)) (.head _) v1, .mk (d := (u2, s2)) (.tail _ (.head _)) v2, .mk (d := (u3, s3)) (.tail _ (.tail _ (.head _))) v3, trivial⟩
    · intro d hd'
      rcases List.mem_append.mp hd' with h | h
      · exact hn d h
      · rcases List.mem_cons.mp h with rfl | h
        · exact n1
        · rcases List.mem_cons.mp h with rfl | h
          · exact n2
          · rw [List.mem_singleton.mp h]; exact n3
    · rw [List.length_append, hl]
      show 3 * i + 3 = _
      omega
    · intro p hp
      rcases List.mem_cons.mp hp with rfl | hp
      · exact f1
      · rcases List.mem_cons.mp hp with rfl | hp
        · exact f2
        · rcases List.mem_cons.mp hp with rfl | hp
          · exact f3
          · exact hne p hp
  · intro p hp x hx
    obtain ⟨q, hq, rfl⟩ := List.mem_map.mp hx
    obtain ⟨g1, g2, g3⟩ := sep p hp
    rcases List.mem_cons.mp hq with rfl | hq
    · exact sepR p hp
    · rcases List.mem_cons.mp hq with rfl | hq
      · exact g1
      · rcases List.mem_cons.mp hq with rfl | hq
        · exact g2
        · rcases List.mem_cons.mp hq with rfl | hq
          · exact g3
          · exact hoff p hp _ (List.mem_map.mpr ⟨q, .tail _ hq, rfl⟩)
  · intro p hp
    rcases List.mem_cons.mp hp with rfl | hp
    · exact .head _
    · rcases List.mem_cons.mp hp with rfl | hp
      · exact keep _ m1 f1
      · rcases List.mem_cons.mp hp with rfl | hp
        · exact keep _ m2 f2
        · rcases List.mem_cons.mp hp with rfl | hp
          · exact keep _ m3 f3
          · exact keep _ (b _ (hold _ hp)) (hne p hp)
  · exact fun p hp => keep _ (b _ (hown p hp)) (sepR p hp)

section
variable {w : World} {mean : ExcName → Option Value} {mg mb : Str → Option Value} {dp un : Nat} {gd : Option (List Code)} {cn : Str} {cs : Scope} {a : Addr} {ccd : Value} {cl : List (Str × Addr)} {outer : List Env} {A₀ : Around} {base h₀ : Heap} {L : Addr} {m : Str → Option Value} {news : List (Addr × Obj)} {s : Shared} {Q E : Value → Shared → Prop}
variable (B : Below A₀ base outer h₀) (F : Fr h₀ L s.heap m) (X : (MineT.hd.heap_39 w.params).In h₀) (N : News h₀ L s.heap news) (T : Top MineT.hd.view_39 lse mean mg mb h₀) (hk : cs.kind = .function)
include B F X N T hk

local macro_rules | `(tactic| k_mem) => `(tactic| first | assumption | (refine List.mem_cons_of_mem _ ?_; k_mem) | (refine List.mem_append.mpr (Or.inl ?_); k_mem) | (refine List.mem_append.mpr (Or.inr ?_); k_mem))
local macro_rules | `(tactic| walk_at "call type:range") => `(tactic| (k_here; k_dflt (refine' range1_rows ?F ?N ?_; (case F => k_asm); (case N => k_asm)); intro h' tk' t1' t2' t3' hR' F' N' hK'; (try dsimp only)))
local macro_rules | `(tactic| walk_at "nothing at all") => `(tactic| skip)
local macro_rules | `(tactic| walk_at "TPost") => `(tactic| (dsimp only [Mine.TPost]))
local macro_rules | `(tactic| walk_at "TEnd") => `(tactic| (refine Mine.Rest.mk ?_))
local macro_rules | `(tactic| walk_at "pyIter ref") => `(tactic| (refine Mine.Rest.mk ?_))
local macro_rules | `(tactic| walk_at "call builtin:list.extend") => `(tactic| (refine Mine.Rest.mk ?_))

local macro_rules | `(tactic| walk_at "call ref") => `(tactic| (k_here; (with_reducible show wpAny _ _ (call (Value.ref 70) [Value.int _ _, Value.int _ _]) _ _ _); k_dflt (refine' dec_rule ?k1 ?k2 ?k3 ?k4 ?k5 ?kK ?h0 ?h1 ?kd ?_; (case k1 => k_asm); (case k2 => k_asm); (case k3 => k_asm); (case k4 => k_asm); (case k5 => k_asm); (case kK => (first | exact rfl | assumption)); (case h0 => exact Mine.sc0 _); (case h1 => exact Mine.sc1 _); (case kd => ktr_room); k_whole); intro u' s' D' t1' t2' c' h' tk' hS' hN' F' N' l'; (have lv' := Mine.lv_of hS' (by first | exact Mine.uP _ | exact Mine.uN _ | exact Mine.uP1 _ | exact Mine.uN1 _) (Mine.sc2 _)); clear hS'; (try k_sweep); (try dsimp only)))
local macro_rules | `(tactic| walk_at "call ref") => `(tactic| (k_here; (with_reducible show wpAny _ _ (call (Value.ref 112) [Value.ref _]) _ _ _); k_dflt (refine' neg_rule ?k1 ?k2 ?k3 ?k4 ?k5 ?kK ?kx ?kd ?_; (case k1 => k_asm); (case k2 => k_asm); (case k3 => k_asm); (case k4 => k_asm); (case k5 => k_asm); (case kK => (first | exact rfl | assumption)); (case kx => k_mem); (case kd => ktr_room); k_whole); intro D' t1' t2' c' h' tk' F' N' l'; (try k_sweep); (try dsimp only)))

set_option maxRecDepth 100000 in
set_option maxHeartbeats 8000000 in
theorem row_rule {l : Addr} {vs0 : List Value} {ns : List Int}
  (hs0 : h₀.IsList l vs0.toArray) (hi0 : IntsAre vs0 ns) (hn0 : ns.length ≤ 63)
  (hdp : dp + 6 < recursionLimit)
  (ret : ∀ R vs ds c tl h tk, Decs tl 25 20 vs ds → (∀ d ∈ ds, Norm d.1 d.2) → 0 < ds.length → ds.length ≤ 9 → Fr h₀ L h m → News h₀ L h ((R, listOf (List.toArray vs) c) :: (tl ++ news)) → Q (.ref R) { s with heap := h, toks := tk }) :
  wpAny (model prg w) (ktrTop dp un gd cn cs L a ccd cl outer) (call (.ref 133) [.ref l]) Q E s := by
  refine wpAny_call ?_
  k_dflt ktr_enter
  (rename Fr h₀ _ _ _ => FG)
  have hs1 := hs0.at fun o e => FG.keep l o e
  k_steps
  (rename Fr _ _ _ _ => kF); (rename News _ _ _ _ => kN); (rename IsRange _ _ _ _ _ _ _ _ => kR)
  refine Mine.Rest.of (Mine.rng_iter (n := max 1 (min 3 ns.length)) [Str.ofString "at", Str.ofString "cell", Str.ofString "units", Str.ofString "scale"] (Mine.RowI news _) rfl kR ?hb ?hs kF kN (Mine.RowI.start (by assumption)) ?turn ?done)
  case hb => (split <;> split) <;> omega
  case hs => omega
  case turn =>
    clear kF kN kR
    rintro i t u nx h9 tk9 own hi hoff ⟨vs, ds, c, tl, rfl, hd, hn, hl, hne⟩ F9 N9
    rw [List.cons_append] at N9
    dsimp only at F9 N9 ⊢
    k_fold
    k_steps
    all_goals (
      (rename Fr _ _ _ _ => kF); (rename News _ _ _ _ => kN)
      refine Mine.Rest.of (Mine.ext_rule kF kN (by k_mem) (by k_mem) (by (show vs.length + 3 ≤ 64); rw [hd.length]; omega) ?_)
      intro h8 n8 kF8 kN8
      clear kF kN
      dsimp only
      k_steps
      refine Mine.Rest.of (Mine.row_turn kF8 kN8 ?_ hd hn hl hne hoff (by k_mem) (by k_mem) (by k_mem) (by with_reducible assumption) (by with_reducible assumption) (by exact Mine.Lv.neg (by with_reducible assumption)) (by with_reducible assumption) (by with_reducible assumption) (by exact Mine.Norm.neg (by with_reducible assumption)) (by with_reducible assumption) (by with_reducible assumption) (by with_reducible assumption) (fun p hp => by k_mem) (fun p hp => by k_mem) (fun p hp => by k_mem) (fun p hp => by k_mem))
      repeat (first | exact Mine.Kept.kmap | refine Mine.Kept.put ?_ (by rfl)))
  case done =>
    clear kF kN kR
    rintro u nx h9 tk9 ⟨vs, ds, c, tl, rfl, hd, hn, hl, hne⟩ F9 N9
    dsimp only at F9 N9 ⊢
    k_steps
    (rename Fr h₀ _ _ _ => kF); (rename News h₀ _ _ _ => kN)
    exact ret _ _ _ _ _ _ _ hd hn (by omega) (by omega) kF kN
end

theorem Kept.kmapIn {stored st2 : List Str} {m₀ m u : Str → Option Value} (h : Kept stored m₀ m) (hs : (st2.all fun x => stored.contains x) = true) : Kept stored m₀ (fun y => Mine.kmap st2 u m y) := by
  intro z hz
  have e : st2.contains z = false := by
    cases hc : st2.contains z with
    | false => rfl
    | true =>
      have h1 := List.all_eq_true.mp hs z (List.contains_iff_mem.mp hc)
      rw [hz] at h1; cases h1
  simp only [Mine.kmap, e, Bool.false_eq_true, if_false]
  exact h z hz
section
variable {prog : Program} {w : World} {A : Around} {E : Value → Shared → Prop} {s : Shared} {h₀ : Heap} {L l : Addr} {news led : List (Addr × Obj)} {vs : List Value} {ds : List (Int × Int)} {n k c : Nat} {Q : Value → Shared → Prop}
/-- the last item -/
theorem dlast {value slice : PySem.Expr} {u : Tok} (N : News h₀ L s.heap news) (hl : (l, listOf vs.toArray c) ∈ news) (hd : Decs led n k vs ds) (hsub : ∀ p ∈ led, p ∈ news) (hp : 0 < ds.length) (hz : ds.length ≤ 9)
    (h : ∀ a ux sx t1 t2 c, (ux, sx) ∈ ds → (a, tupO ux sx t1 t2 c) ∈ news → Lv n k ux sx → Q (.ref a) s)
    (hs : subscripted slice false (.ref l) (.int (-1) u) = operate [.ref l, .int (-1) u] (getItem (.ref l) (.int (-1) u)) := by with_unfolding_all rfl) :
    wpAny (model prog w) A (subscriptTail value slice (.ref l) (.int (-1) u)) Q E s := by
  obtain ⟨v, d, e1, e2, hD⟩ := hd.at (i := ds.length - 1) (by omega)
  cases hD with
  | mk hm lv =>
    have hl' : s.heap.IsList l vs.toArray := ⟨_, (N _ hl).1, rfl, c, rfl⟩
    have hlen := hd.length
    have e3 : (-1 + (vs.toArray.size : Int)).toNat = ds.length - 1 := by rw [List.size_toArray]; omega
    exact tail_any hl'.typeIs slot_list_getitem.lookup (wpAny_getItem_list_neg hl' (by decide) (by rw [List.size_toArray]; omega) (by decide) (by rw [e3]; simpa using e1) (h _ _ _ _ _ _ (List.mem_of_getElem? e2) (hsub _ hm) lv)) hs
/-- two tuples of two ints are compared -/
theorem deq {x y : Addr} {ux sx uy sy : Int} {t1 t2 t3 t4 : Tok} {c1 c2 : Nat} (N : News h₀ L s.heap news) (hx : (x, tupO ux sx t1 t2 c1) ∈ news) (hy : (y, tupO uy sy t3 t4 c2) ∈ news) (hu : A.units + 64 < cLine)
    (h : Q (.bool (decide (ux = uy ∧ sx = sy))) s) : wpAny (model prog w) A (compareOp .Eq (.ref x) (.ref y)) Q E s := by
  refine eq_dataH (reads_tuple_at (N.get hx) rfl rfl (ReadsAll.cons (Reads.int _ _) (ReadsAll.cons (Reads.int _ _) ReadsAll.nil))) (reads_tuple_at (N.get hy) rfl rfl (ReadsAll.cons (Reads.int _ _) (ReadsAll.cons (Reads.int _ _) ReadsAll.nil))) rfl rfl hu ?_
  have e : PyData.eqv (.tuple [.int ux, .int sx]) (.tuple [.int uy, .int sy]) = decide (ux = uy ∧ sx = sy) := by
    simp only [PyData.eqv, PyData.eqvAll, Bool.and_true]
    by_cases h1 : ux = uy <;> by_cases h2 : sx = sy <;> simp [h1, h2]
  rw [e]
  exact h
end
theorem Eq_iff {n k : Nat} {u s v t : Int} (lx : Lv n k u s) (ly : Lv n k v t) (hk : k ≤ 60) (nx : Norm u s) (ny : Norm v t) : X u s = X v t ↔ (u = v ∧ s = t) := by
  constructor
  · intro h
    exact norm_inj lx.h0 (by have := lx.h1; omega) ly.h0 (by have := ly.h1; omega) nx ny h
  · rintro ⟨rfl, rfl⟩
    rfl
section
variable {prog : Program} {w : World} {A : Around} {E : Value → Shared → Prop} {s : Shared} {env : Env} {h₀ : Heap} {x : Str} {body : List Stmt} {Q : Flow → Shared → Prop}
theorem lst_iter0 {l : Addr} {vs : List Value} {nn : Nat} {m₀ : Str → Option Value} {news : List (Addr × Obj)} (stored : List Str)
    (hh : A.handled = none) (hl : (l, listOf vs.toArray nn) ∈ news) (F : Fr h₀ env.locals s.heap m₀) (N : News h₀ env.locals s.heap news)
    (turn : ∀ (i : Nat) v (u : Str → Option Value) h tk own, vs[i]? = some v → OwnOff own (news.map (·.1)) → Fr h₀ env.locals h (fun y => if y = x then some v else kmap stored u m₀ y) → News h₀ env.locals h (news ++ own) →
      wpAny (model prog w) A (execs body env) (TPost h₀ env.locals stored m₀ (fun nx => nx = news) own { s with heap := h, toks := tk } Q) E { s with heap := h, toks := tk })
    (done : ∀ (u : Str → Option Value) h tk, Fr h₀ env.locals h (fun y => kmap stored u m₀ y) → News h₀ env.locals h news → Q .next { s with heap := h, toks := tk }) :
    wpAny (model prog w) A (pyIter (.ref l)) (fun it s₂ => LoopAtV prog w A h₀ env x body Q E it s₂) E s :=
  lst_iter stored (fun _ nx => nx = news) hh hl F N rfl (fun _ _ e => e ▸ hl) (fun i v u nx h tk own hv ho e F' N' => turn i v u h tk own hv (e ▸ ho) F' (e ▸ N')) fun u nx h tk e F' N' => done u h tk F' (e ▸ N')
theorem rng_iter0 {r : Addr} {b : Int} {t₀ u₀ v₀ : Tok} {n : Nat} {m₀ : Str → Option Value} {news : List (Addr × Obj)} (stored : List Str)
    (hh : A.handled = none) (hr : IsRange s.heap r 0 b 1 t₀ u₀ v₀) (hb : b = (n : Int)) (hs : n ≤ 64) (F : Fr h₀ env.locals s.heap m₀) (N : News h₀ env.locals s.heap news)
    (turn : ∀ (i : Nat) t (u : Str → Option Value) h tk own, i < n → OwnOff own (news.map (·.1)) → Fr h₀ env.locals h (fun y => if y = x then some (.int (i : Int) t) else kmap stored u m₀ y) → News h₀ env.locals h (news ++ own) →
      wpAny (model prog w) A (execs body env) (TPost h₀ env.locals stored m₀ (fun nx => nx = news) own { s with heap := h, toks := tk } Q) E { s with heap := h, toks := tk })
    (done : ∀ (u : Str → Option Value) h tk, Fr h₀ env.locals h (fun y => kmap stored u m₀ y) → News h₀ env.locals h news → Q .next { s with heap := h, toks := tk }) :
    wpAny (model prog w) A (pyIter (.ref r)) (fun it s₂ => LoopAtV prog w A h₀ env x body Q E it s₂) E s :=
  rng_iter stored (fun _ nx => nx = news) hh hr hb hs F N rfl (fun i t u nx h tk own hi ho e F' N' => turn i t u h tk own hi (e ▸ ho) F' (e ▸ N')) fun u nx h tk e F' N' => done u h tk F' (e ▸ N')
theorem TEnd.same {L : Addr} {stored : List Str} {m₀ m' : Str → Option Value} {news own news' : List (Addr × Obj)} {s₁ : Shared} {h' : Heap} {tk : Nat} (F : Fr h₀ L h' m') (N : News h₀ L h' news')
    (ho : OwnOff own (news.map (·.1))) (hn : ∀ p ∈ news ++ own, p ∈ news') (hk : Kept stored m₀ m') : TEnd h₀ L stored m₀ (fun nx => nx = news) own s₁ { s₁ with heap := h', toks := tk } :=
  TEnd.intro news F N hk rfl ho (fun p hp => hn p (List.mem_append.mpr (.inl hp))) fun p hp => hn p (List.mem_append.mpr (.inr hp))
end
section
variable {M : Model} {A : Around} {E : Value → Shared → Prop} {s : Shared} {h₀ : Heap} {L a : Addr} {m : Str → Option Value} {cn : Str} {cs : Scope} {ccd : Value} {cl : List (Str × Addr)}
  {x : Str} {v : Value} {Q : Unit → Shared → Prop} {news : List (Addr × Obj)} {c : Addr} {o : Obj} {v₀ : Option Value}
/-- a store into a cell: the ledger but the cell, and the cell anew ahead of it -/
theorem store_cell (F : Fr h₀ L s.heap m) (N : News h₀ L s.heap news) (hc : cl.lookup x = some c) (hm : (c, o) ∈ news) (hd : o.data = .cell v₀)
    (h : ∀ h' o', Fr h₀ L h' m → News h₀ L h' ((c, o') :: news.filter fun p => decide (p.1 ≠ c)) → o'.data = .cell (some v) → Q () { s with heap := h' })
    (hk : cs.kind = .function := by rfl) (hx : (envX cn cs L a ccd cl).kindOf x = some .cell := by rfl) : wpAny M A (storeName (envX cn cs L a ccd cl) x v) Q E s := by
  refine storeX_C F (news := (c, o) :: news.filter fun p => decide (p.1 ≠ c)) (fun p hp => ?_) hc (.head fun p hp => by simpa using (List.mem_filter.mp hp).2) hd h hk hx
  rcases List.mem_cons.mp hp with rfl | hp
  · exact N _ hm
  · exact N _ (List.mem_filter.mp hp).1
end
theorem ne_cell {h₀ h : Heap} {L a c : Addr} {o : Obj} {v₀ : Option Value} {cls : Value} {vs : Array Value} {n : Nat} {news : List (Addr × Obj)} (N : News h₀ L h news) (hm : (c, o) ∈ news) (hd : o.data = .cell v₀)
    (ha : (a, ({ cls := cls, data := .seq vs n } : Obj)) ∈ news) : a ≠ c := by
  intro e
  have h1 := N.get ha
  rw [e, N.get hm] at h1
  rw [Option.some.inj h1] at hd
  cases hd
theorem Dec.off {h₀ h : Heap} {L c : Addr} {o : Obj} {v₀ : Option Value} {news : List (Addr × Obj)} {n k : Nat} {v : Value} {d : Int × Int} (N : News h₀ L h news) (hm : (c, o) ∈ news) (hd : o.data = .cell v₀) (x : Dec news n k v d) :
    Dec (news.filter fun p => decide (p.1 ≠ c)) n k v d := by
  cases x with
  | mk a b => exact .mk (List.mem_filter.mpr ⟨a, by simpa using ne_cell N hm hd a⟩) b
theorem Decs.off {h₀ h : Heap} {L c : Addr} {o : Obj} {v₀ : Option Value} {news : List (Addr × Obj)} {n k : Nat} (N : News h₀ L h news) (hm : (c, o) ∈ news) (hd : o.data = .cell v₀) :
    ∀ {vs : List Value} {ds : List (Int × Int)}, Decs news n k vs ds → Decs (news.filter fun p => decide (p.1 ≠ c)) n k vs ds
  | [], [], _ => trivial
  | _ :: _, _ :: _, x => ⟨x.1.off N hm hd, x.2.off N hm hd⟩
  | [], _ :: _, x => x.elim
  | _ :: _, [], x => x.elim

namespace Cp
open LCg LCt
section
variable {prog : Program} {w : World} {A : Around} {s : Shared} {h₀ : Heap} {L : Addr} {m : Str → Option Value} {env : Env}
/-- a turn's end that leaves the ledger as it was -/
def End0 (h₀ : Heap) (L : Addr) (m : Str → Option Value) (s₁ : Shared) (news : List (Addr × Obj)) (s₂ : Shared) : Prop :=
  ∃ h' tk led, s₂ = { s₁ with heap := h', toks := tk } ∧ Fr h₀ L h' m ∧ News h₀ L h' led ∧ ∀ p ∈ news, p ∈ led
theorem End0.mk {s₁ : Shared} {news led : List (Addr × Obj)} {h' : Heap} {tk : Nat} (F : Fr h₀ L h' m) (N : News h₀ L h' led) (h : ∀ p ∈ news, p ∈ led) : End0 h₀ L m s₁ news { s₁ with heap := h', toks := tk } := ⟨h', tk, led, rfl, F, N, h⟩
/-- a comprehension whose test never holds -/
theorem none_taken {ct elt : Expr} {x : Str} {scope : Scope} {cl : List (Str × Addr)} {P : Nat → Value → Prop} {Fin : List Value → List (Addr × Obj) → Prop} {news : List (Addr × Obj)} {n : Nat} (fin : Fin [] news)
    (turn : ∀ i v I oI C oC D m₂ h tk (E' : Value → Shared → Prop), i < n → P i v → NsObj oC m₂ → m₂ x = some v → Fr h₀ L h m → News h₀ L h ((I, oI) :: (C, oC) :: (D, lst []) :: news) → Off3 I C D news → ((@Ne Nat I C) ∧ (@Ne Nat I D) ∧ (@Ne Nat C D)) →
      wpAny (model prog w) A (isTrue ct (compEnvC scope cl C env) (eval ct (compEnvC scope cl C env))) (fun ok s' => ok = false ∧ End0 h₀ L m { s with heap := h, toks := tk } ((I, oI) :: (C, oC) :: (D, lst []) :: news) s') E' { s with heap := h, toks := tk }) :
    CompRestT prog w A h₀ L m env ct elt x scope cl s (fun _ => True) P Fin n 0 [] news := by
  have key : ∀ k i, i + k = n → CompRestT prog w A h₀ L m env ct elt x scope cl s (fun _ => True) P Fin k i [] news := by
    intro k
    induction k with
    | zero => intro i _; exact CompRestT.zero fin
    | succ k ih =>
      intro i hik
      refine CompRestT.succ ?_
      intro v I oI C oC D m₂ h tk E' hP hC hx F N off ne
      refine wpAny_mono (turn i v I oI C oC D m₂ h tk E' (by omega) hP hC hx F N off ne) (fun ok s' q => ?_) fun _ _ e => e
      obtain ⟨rfl, h', tk', led, rfl, F', N', hs⟩ := q
      rw [if_neg Bool.false_ne_true]
      exact CompEnd.intro F' N' news hs off trivial (ih (i + 1) (by omega))
  exact key n 0 (Nat.zero_add n)
/-- a turn's end that gives an item -/
def End1 (h₀ : Heap) (L : Addr) (m : Str → Option Value) (s₁ : Shared) (I C D : Addr) (head : List (Addr × Obj)) (J : Value → List (Addr × Obj) → Prop) (y : Value) (s₂ : Shared) : Prop :=
  ∃ h' tk led nx, s₂ = { s₁ with heap := h', toks := tk } ∧ Fr h₀ L h' m ∧ News h₀ L h' led ∧ (∀ p ∈ head, p ∈ led) ∧ (∀ p ∈ nx, p ∈ led) ∧ Off3 I C D nx ∧ J y nx
theorem all_taken {elt : Expr} {x : Str} {scope : Scope} {cl : List (Str × Addr)} {P : Nat → Value → Prop} {Fin : List Value → List (Addr × Obj) → Prop} {news : List (Addr × Obj)} {n : Nat} (J : Nat → List Value → List (Addr × Obj) → Prop) (h0 : J 0 [] news)
    (fin : ∀ ys nx, J n ys nx → Fin ys nx)
    (turn : ∀ i ys nx v I oI C oC D m₂ h tk (E' : Value → Shared → Prop), i < n → J i ys nx → P i v → NsObj oC m₂ → m₂ x = some v → Fr h₀ L h m → News h₀ L h ((I, oI) :: (C, oC) :: (D, lst ys) :: nx) → Off3 I C D nx → ((@Ne Nat I C) ∧ (@Ne Nat I D) ∧ (@Ne Nat C D)) →
      wpAny (model prog w) A (eval elt (compEnvC scope cl C env)) (End1 h₀ L m { s with heap := h, toks := tk } I C D [(I, oI), (C, oC), (D, lst ys)] (fun y nx' => J (i + 1) (ys ++ [y]) nx')) E' { s with heap := h, toks := tk }) :
    CompRest prog w A h₀ L m env elt x scope cl s (fun _ => True) P Fin n 0 [] news := by
  have key : ∀ k i ys nx, i + k = n → J i ys nx → CompRest prog w A h₀ L m env elt x scope cl s (fun _ => True) P Fin k i ys nx := by
    intro k
    induction k with
    | zero =>
      intro i ys nx hi hJ
      have e : i = n := by omega
      subst e
      exact CompRest.zero (fin _ _ hJ)
    | succ k ih =>
      intro i ys nx hik hJ
      refine CompRest.succ ?_
      intro v I oI C oC D m₂ h tk E' hP hC hx F N off ne
      refine wpAny_mono (turn i ys nx v I oI C oC D m₂ h tk E' (by omega) hJ hP hC hx F N off ne) (fun y s' q => ?_) fun _ _ e => e
      obtain ⟨h', tk', led, nx', rfl, F', N', hh, hs, off', hJ'⟩ := q
      refine CompEnd.intro F' N' nx' (fun p hp => ?_) off' trivial (ih (i + 1) _ _ (by omega) hJ')
      rcases List.mem_cons.mp hp with rfl | hp
      · exact hh _ (.head _)
      · rcases List.mem_cons.mp hp with rfl | hp
        · exact hh _ (.tail _ (.head _))
        · rcases List.mem_cons.mp hp with rfl | hp
          · exact hh _ (.tail _ (.tail _ (.head _)))
          · exact hs _ hp
  exact key n 0 [] news (Nat.zero_add n) h0
end
end Cp

theorem bne_dec {p q : Prop} [Decidable p] [Decidable q] : ((decide p != decide q) = true) ↔ ¬ (p ↔ q) := by
  by_cases hp : p <;> by_cases hq : q <;> simp [hp, hq]
theorem beq_dec {a b : Int} : (a == b) = decide (a = b) := by
  by_cases h : a = b <;> simp [h]
theorem bne_dec2 {a b : Int} : (a != b) = decide (a ≠ b) := by
  by_cases h : a = b <;> simp [h]

theorem sgn_lt {u v a b : Int} (h : X u v = a - b) (c : a < b) : u < 0 := X_lt0.mp (by rw [h]; omega)
theorem sgn_gt {u v a b : Int} (h : X u v = a - b) (c : b < a) : 0 < u := X_pos.mp (by rw [h]; omega)
theorem sgn_eq {u v a b : Int} (h : X u v = a - b) (c : a = b) : u = 0 := X_eq0.mp (by rw [h]; omega)

section
variable {w : World} {mean : ExcName → Option Value} {mg mb : Str → Option Value} {dp un : Nat} {gd : Option (List Code)} {cn : Str} {cs : Scope} {a : Addr} {ccd : Value} {cl : List (Str × Addr)} {outer : List Env} {A₀ : Around} {base h₀ : Heap} {L : Addr} {m : Str → Option Value} {news : List (Addr × Obj)} {s : Shared} {Q E : Value → Shared → Prop}
variable (B : Below A₀ base outer h₀) (F : Fr h₀ L s.heap m) (X : (MineT.hd.heap_39 w.params).In h₀) (N : News h₀ L s.heap news) (T : Top MineT.hd.view_39 lse mean mg mb h₀) (hk : cs.kind = .function)
include B F X N T hk
theorem neg_rule2 {x : Addr} {ux sx : Int} {t1 t2 : Tok} {n1 n k : Nat}
  (hx : (x, tupO ux sx t1 t2 n1) ∈ news) (lx : Lv n k ux sx)
  (hdp : dp + 2 < recursionLimit)
  (ret : ∀ u D t1 t2 c h tk, Lv n k u sx → Mine.X u sx = - Mine.X ux sx → Fr h₀ L h m → News h₀ L h ((D, tupO u sx t1 t2 c) :: news) → AllLt D news → Q (.ref D) { s with heap := h, toks := tk }) :
  wpAny (model prg w) (ktrTop dp un gd cn cs L a ccd cl outer) (call (.ref 112) [.ref x]) Q E s :=
  neg_rule B F X N T hk hx hdp fun D t1 t2 c h tk F' N' l => ret (-ux) D t1 t2 c h tk lx.neg Mine.X_neg F' N' l
end

/-- each is at most the next -/
def Rising (ds : List (Int × Int)) : Prop := ∀ j a b, ds[j]? = some a → ds[j + 1]? = some b → Wd a ≤ Wd b
theorem Rising.put {ds : List (Int × Int)} {k : Nat} {x : Int × Int} (h : Rising ds) (hk : k ≤ ds.length) (h1 : UpTo ds k (Wd x)) (h2 : ∀ d, ds[k]? = some d → Wd x ≤ Wd d) : Rising (ds.take k ++ [x] ++ ds.drop k) := by
  have hl : (ds.take k).length = k := by rw [List.length_take]; omega
  have lo : ∀ j, j < k → (ds.take k ++ [x] ++ ds.drop k)[j]? = ds[j]? := by
    intro j hj
    rw [List.append_assoc, List.getElem?_append_left (by omega), List.getElem?_take]
    simp [hj]
  have mid : (ds.take k ++ [x] ++ ds.drop k)[k]? = some x := by
    rw [List.append_assoc, List.getElem?_append_right (by omega), hl, Nat.sub_self]
    rfl
  have hi : ∀ j, k ≤ j → (ds.take k ++ [x] ++ ds.drop k)[j + 1]? = ds[j]? := by
    intro j hj
    have hl2 : (ds.take k ++ [x]).length = k + 1 := by rw [List.length_append, hl]; rfl
    rw [List.getElem?_append_right (by omega), hl2, List.getElem?_drop]
    congr 1
    omega
  intro j a b ha hb
  rcases Nat.lt_trichotomy (j + 1) k with c | c | c
  · rw [lo j (by omega)] at ha
    rw [lo (j + 1) c] at hb
    exact h j a b ha hb
  · rw [lo j (by omega)] at ha
    rw [c, mid] at hb
    cases hb
    exact Int.le_of_lt (h1 j a (by omega) ha)
  · by_cases e : j = k
    · subst e
      rw [mid] at ha
      cases ha
      rw [hi j (Nat.le_refl _)] at hb
      exact h2 b hb
    · obtain ⟨i, rfl⟩ : ∃ i, j = i + 1 := ⟨j - 1, by omega⟩
      rw [hi i (by omega)] at ha
      rw [hi (i + 1) (by omega)] at hb
      exact h i a b ha hb
theorem put_length {ds : List (Int × Int)} {k : Nat} {x : Int × Int} (hk : k ≤ ds.length) : (ds.take k ++ [x] ++ ds.drop k).length = ds.length + 1 := by
  simp only [List.length_append, List.length_take, List.length_drop, List.length_cons, List.length_nil]
  omega

/-- what holds between the turns of the ordering -/
structure Ord (c R : Addr) (vs : List Value) (cR : Nat) (ds : List (Int × Int)) (i : Nat) (nx : List (Addr × Obj)) (o : Obj) (l : Addr) (vs' : List Value) (ds' : List (Int × Int)) (n : Nat) : Prop where
  row : (R, listOf vs.toArray cR) ∈ nx
  dec : Decs nx 25 20 vs ds
  cell : (c, o) ∈ nx
  data : o.data = .cell (some (.ref l))
  lst : (l, listOf vs'.toArray n) ∈ nx
  decs : Decs nx 25 20 vs' ds'
  len : ds'.length = i
  up : Rising ds'
def OrdI (c R : Addr) (vs : List Value) (cR : Nat) (ds : List (Int × Int)) (i : Nat) (nx : List (Addr × Obj)) : Prop := ∃ o l vs' ds' n, Ord c R vs cR ds i nx o l vs' ds' n

theorem mem_off {h₀ h : Heap} {L a c : Addr} {o : Obj} {v₀ : Option Value} {cls : Value} {vs : Array Value} {n : Nat} {news : List (Addr × Obj)} (N : News h₀ L h news) (hm : (c, o) ∈ news) (hd : o.data = .cell v₀)
    (ha : (a, ({ cls := cls, data := .seq vs n } : Obj)) ∈ news) : (a, ({ cls := cls, data := .seq vs n } : Obj)) ∈ news.filter fun p => decide (p.1 ≠ c) :=
  List.mem_filter.mpr ⟨ha, by simpa using ne_cell N hm hd ha⟩

theorem ord_start {h₀ h : Heap} {L c R l : Addr} {o o8 : Obj} {v₀ : Option Value} {led : List (Addr × Obj)} {vs : List Value} {ds : List (Int × Int)} {cR n : Nat}
    (N : News h₀ L h led) (hm : (c, o) ∈ led) (hd : o.data = .cell v₀) (hl : (l, listOf #[] n) ∈ led) (hR : (R, listOf vs.toArray cR) ∈ led) (D : Decs led 25 20 vs ds)
    (hd8 : o8.data = .cell (some (.ref l))) : OrdI c R vs cR ds 0 ((c, o8) :: led.filter fun p => decide (p.1 ≠ c)) :=
  ⟨o8, l, [], [], n, .tail _ (mem_off N hm hd hR), (D.off N hm hd).mono fun _ hp => .tail _ hp, .head _, hd8, .tail _ (mem_off N hm hd hl), trivial, rfl, fun j a b ha _ => by cases ha⟩

theorem ord_turn {h₀ h h8 : Heap} {L c R l D x : Addr} {o o8 : Obj} {nx own : List (Addr × Obj)} {vs vs' : List Value} {ds ds' : List (Int × Int)} {cR i k n n2 : Nat} {d : Int × Int} {stored : List Str} {m₀ m8 : Str → Option Value} {s₁ : Shared} {tk : Nat}
    (N : News h₀ L h ((D, listOf (vs'.take k ++ [Value.ref x] ++ vs'.drop k).toArray n2) :: (nx ++ own))) (hA : AllLt D (nx ++ own)) (hoff : OwnOff own (nx.map (·.1)))
    (S : Ord c R vs cR ds i nx o l vs' ds' n) (hx : Dec nx 25 20 (.ref x) d) (hk : k ≤ ds'.length) (h1 : UpTo ds' k (Wd d)) (h2 : ∀ e, ds'[k]? = some e → Wd d ≤ Wd e)
    (F8 : Fr h₀ L h8 m8) (N8 : News h₀ L h8 ((c, o8) :: ((D, listOf (vs'.take k ++ [Value.ref x] ++ vs'.drop k).toArray n2) :: (nx ++ own)).filter fun p => decide (p.1 ≠ c))) (hd8 : o8.data = .cell (some (.ref D)))
    (hK : Kept stored m₀ m8) : TEnd h₀ L stored m₀ (OrdI c R vs cR ds (i + 1)) own s₁ { s₁ with heap := h8, toks := tk } := by
  have N0 : News h₀ L h nx := fun p hp => N p (.tail _ (List.mem_append.mpr (.inl hp)))
  have lt := fun p hp => tb_ltOf hA p hp
  have hcD : D ≠ c := Nat.ne_of_gt (lt _ (List.mem_append.mpr (.inl S.cell)))
  have offc : ∀ p ∈ own, p.1 ≠ c := fun p hp => hoff p hp c (List.mem_map.mpr ⟨_, S.cell, rfl⟩)
  have offD : ∀ p ∈ own, p.1 ≠ D := fun p hp => Nat.ne_of_lt (lt _ (List.mem_append.mpr (.inr hp)))
  have DD : Decs ((nx.filter fun p => decide (p.1 ≠ c))) 25 20 (vs'.take k ++ [Value.ref x] ++ vs'.drop k) (ds'.take k ++ [d] ++ ds'.drop k) :=
    (((S.decs.take k).append (ws := [Value.ref x]) (es := [d]) ⟨hx, trivial⟩).append (S.decs.drop k)).off N0 S.cell S.data
  refine TEnd.intro ((c, o8) :: (D, listOf (vs'.take k ++ [Value.ref x] ++ vs'.drop k).toArray n2) :: nx.filter fun p => decide (p.1 ≠ c)) F8 N8 hK ?_ ?_ ?_ ?_
  · exact ⟨o8, D, _, _, n2, .tail _ (.tail _ (mem_off N0 S.cell S.data S.row)), (S.dec.off N0 S.cell S.data).mono fun _ hp => .tail _ (.tail _ hp), .head _, hd8, .tail _ (.head _), DD.mono fun _ hp => .tail _ (.tail _ hp), by rw [put_length hk, S.len], S.up.put hk h1 h2⟩
  · intro p hp b hb
    obtain ⟨q, hq, rfl⟩ := List.mem_map.mp hb
    rcases List.mem_cons.mp hq with rfl | hq
    · exact offc p hp
    · rcases List.mem_cons.mp hq with rfl | hq
      · exact offD p hp
      · exact hoff p hp _ (List.mem_map.mpr ⟨q, (List.mem_filter.mp hq).1, rfl⟩)
  · intro p hp
    rcases List.mem_cons.mp hp with rfl | hp
    · exact .head _
    · rcases List.mem_cons.mp hp with rfl | hp
      · exact .tail _ (List.mem_filter.mpr ⟨.head _, by simpa using hcD⟩)
      · obtain ⟨a, b⟩ := List.mem_filter.mp hp
        exact .tail _ (List.mem_filter.mpr ⟨.tail _ (List.mem_append.mpr (.inl a)), b⟩)
  · intro p hp
    exact .tail _ (List.mem_filter.mpr ⟨.tail _ (List.mem_append.mpr (.inr hp)), by simpa using offc p hp⟩)

theorem row_led {h₀ h : Heap} {L R c : Addr} {o w : Obj} {tl : List (Addr × Obj)} {n k : Nat} {vs : List Value} {ds : List (Int × Int)} (N : News h₀ L h ((R, o) :: (tl ++ [(c, w)]))) (hd : Decs tl n k vs ds) :
    ∃ led, News h₀ L h led ∧ (R, o) ∈ led ∧ (c, w) ∈ led ∧ Decs led n k vs ds :=
  ⟨_, N, .head _, .tail _ (List.mem_append.mpr (.inr (.head _))), hd.mono fun _ hp => .tail _ (List.mem_append.mpr (.inl hp))⟩
/-- the middles: each twice is the sum of its neighbours -/
def Mids (ds' ms : List (Int × Int)) : Prop := ∀ j m a b, ms[j]? = some m → ds'[j]? = some a → ds'[j + 1]? = some b → 2 * Wd m = Wd a + Wd b
theorem Mids.nil {ds' : List (Int × Int)} : Mids ds' [] := fun j m a b h => by cases h
theorem Mids.snoc {ds' ms : List (Int × Int)} {m : Int × Int} (h : Mids ds' ms) (hm : ∀ a b, ds'[ms.length]? = some a → ds'[ms.length + 1]? = some b → 2 * Wd m = Wd a + Wd b) : Mids ds' (ms ++ [m]) := by
  intro j m' a b h1 h2 h3
  by_cases hj : j < ms.length
  · rw [List.getElem?_append_left hj] at h1
    exact h j m' a b h1 h2 h3
  · rw [List.getElem?_append_right (by omega)] at h1
    by_cases e : j = ms.length
    · subst e
      rw [Nat.sub_self] at h1
      cases h1
      exact hm a b h2 h3
    · obtain ⟨q, hq⟩ : ∃ q, j - ms.length = q + 1 := ⟨j - ms.length - 1, by omega⟩
      rw [hq] at h1
      cases h1

/-- what stands at a place -/
structure At0 (ds : List (Int × Int)) (j : Nat) (u s : Int) : Prop where
  is : ds[j]? = some (u, s)
structure At1 (ds : List (Int × Int)) (j : Nat) (u s : Int) : Prop where
  is : ds[j]? = some (u, s)
section
variable {prog : Program} {w : World} {A : Around} {E : Value → Shared → Prop} {s : Shared} {h₀ : Heap} {L l : Addr} {news led : List (Addr × Obj)} {vs : List Value} {ds : List (Int × Int)} {n k c : Nat} {Q : Value → Shared → Prop}
theorem dlen3 (N : News h₀ L s.heap news) (hl : (l, listOf vs.toArray c) ∈ news) (hd : Decs led n k vs ds) (hz : ds.length ≤ 9)
    (h : Q (.int ds.length (s.toks + 1)) { s with toks := s.toks + 1 + 1 }) : wpAny (model prog w) A (call (.builtin "len") [.ref l]) Q E s := by
  have e : vs.toArray.size = ds.length := by rw [List.size_toArray, hd.length]
  exact len_list ⟨_, (N _ hl).1, rfl, c, rfl⟩ (by rw [e]; omega) (by rw [e]; exact h)
theorem ditem3 {value slice : PySem.Expr} {i : Int} {u : Tok} {j : Nat} {ux sx : Int} (N : News h₀ L s.heap news) (hl : (l, listOf vs.toArray c) ∈ news) (hd : Decs led n k vs ds) (hsub : ∀ p ∈ led, p ∈ news) (hz : ds.length ≤ 9) (hj : ds[j]? = some (ux, sx)) (hi : i = (j : Int))
    (h : ∀ a t1 t2 c, vs[j]? = some (.ref a) → (a, tupO ux sx t1 t2 c) ∈ news → Lv n k ux sx → Q (.ref a) s)
    (hs : subscripted slice false (.ref l) (.int i u) = operate [.ref l, .int i u] (getItem (.ref l) (.int i u)) := by with_unfolding_all rfl) :
    wpAny (model prog w) A (subscriptTail value slice (.ref l) (.int i u)) Q E s := by
  have hlt := (List.getElem?_eq_some_iff.mp hj).1
  obtain ⟨v, d, e1, e2, hD⟩ := hd.at hlt
  rw [hj] at e2
  cases e2
  cases hD with
  | mk hm lv =>
    subst hi
    have hl' : s.heap.IsList l vs.toArray := ⟨_, (N _ hl).1, rfl, c, rfl⟩
    exact tail_any hl'.typeIs slot_list_getitem.lookup (wpAny_getItem_list hl' (by omega) (by omega) (by simpa using e1) (h _ _ _ _ e1 (hsub _ hm) lv)) hs
end
theorem rsize {n : Nat} {b : Int} (hb : b = (n : Int)) : Builtin.Range.rangeSize 0 b 1 = (n : Int) := by
  subst hb
  unfold Builtin.Range.rangeSize
  split <;> (try split) <;> omega
theorem rsmall {n : Nat} {b : Int} (hb : b = (n : Int)) (hn : n ≤ 64) : Builtin.Range.small 0 b 1 = true := small_one (by decide) (by decide) (by omega) (by omega)

/-- what holds between the turns of the middles' making -/
structure Mid (c : Addr) (o : Obj) (l : Addr) (vs' : List Value) (ds' : List (Int × Int)) (n : Nat) (i : Nat) (ys : List Value) (nx : List (Addr × Obj)) (ms : List (Int × Int)) : Prop where
  cell : (c, o) ∈ nx
  lst : (l, listOf vs'.toArray n) ∈ nx
  decs : Decs nx 25 20 vs' ds'
  mids : Decs nx 47 21 ys ms
  len : ms.length = i
  is : Mids ds' ms
def MidI (c : Addr) (o : Obj) (l : Addr) (vs' : List Value) (ds' : List (Int × Int)) (n : Nat) (i : Nat) (ys : List Value) (nx : List (Addr × Obj)) : Prop := ∃ ms, Mid c o l vs' ds' n i ys nx ms
theorem mid_turn {h₀ h' : Heap} {L : Addr} {m : Str → Option Value} {s₁ : Shared} {I C D M c l : Addr} {oI oC o : Obj} {vs' ys : List Value} {ds' ms : List (Int × Int)} {n i tk : Nat} {nx led ledM : List (Addr × Obj)} {u v : Int} {t1 t2 : Tok} {cM : Nat} {ua sa ub sb : Int}
    (F : Fr h₀ L h' m) (N : News h₀ L h' led) (S : Mid c o l vs' ds' n i ys nx ms) (off : LCg.Off3 I C D nx) (hM : (M, tupO u v t1 t2 cM) ∈ led) (hA : AllLt M ledM)
    (hsM : ∀ p ∈ (I, oI) :: (C, oC) :: (D, LCg.lst ys) :: nx, p ∈ ledM) (hs : ∀ p ∈ (I, oI) :: (C, oC) :: (D, LCg.lst ys) :: nx, p ∈ led) (lv : Lv 47 21 u v)
    (ha : ds'[i]? = some (ua, sa)) (hb : ds'[i + 1]? = some (ub, sb)) (hX : 2 * X u v = X ua sa + X ub sb) :
    Cp.End1 h₀ L m s₁ I C D [(I, oI), (C, oC), (D, LCg.lst ys)] (fun y nx' => MidI c o l vs' ds' n (i + 1) (ys ++ [y]) nx') (.ref M) { s₁ with heap := h', toks := tk } := by
  have lt := fun p hp => tb_ltOf hA p (hsM p hp)
  refine ⟨h', tk, led, (M, tupO u v t1 t2 cM) :: nx, rfl, F, N, fun p hp => hs p ?_, fun p hp => ?_, ⟨⟨?_, ?_, ?_⟩, off⟩, ms ++ [(u, v)], ?_⟩
  · rcases List.mem_cons.mp hp with rfl | hp
    · exact .head _
    · rcases List.mem_cons.mp hp with rfl | hp
      · exact .tail _ (.head _)
      · rw [List.mem_singleton.mp hp]; exact .tail _ (.tail _ (.head _))
  · rcases List.mem_cons.mp hp with rfl | hp
    · exact hM
    · exact hs p (.tail _ (.tail _ (.tail _ hp)))
  · exact Nat.ne_of_gt (lt _ (.head _))
  · exact Nat.ne_of_gt (lt _ (.tail _ (.head _)))
  · exact Nat.ne_of_gt (lt _ (.tail _ (.tail _ (.head _))))
  · refine ⟨.tail _ S.cell, .tail _ S.lst, S.decs.mono fun _ hp => .tail _ hp, (S.mids.mono fun _ hp => .tail _ hp).append (ws := [Value.ref M]) (es := [(u, v)]) ⟨.mk (d := (u, v)) (.head _) lv, trivial⟩, by rw [List.length_append, S.len]; rfl, S.is.snoc fun a b h1 h2 => ?_⟩
    rw [S.len, ha] at h1
    rw [S.len, hb] at h2
    cases h1
    cases h2
    exact hX

theorem lit1 : X (-2) 0 < X (-1) 0 := X_lt.mpr (by decide)
theorem lit2 : X 9 1 < X 1 0 := by
  have h : X (10 / 10) (1 - 1) = X 10 1 := X_strip (by decide) (by decide) (by decide)
  have e : X (10 / 10) (1 - 1) = X 1 0 := rfl
  rw [← e, h]
  exact X_lt.mpr (by decide)
theorem lit3 : X (-1) 3 < X 0 0 := by
  have h1 : X (-1) 3 < 0 := X_lt0.mpr (by decide)
  have h2 : X 0 0 = 0 := X_eq0.mpr rfl
  omega

local macro_rules | `(tactic| tb_rel) => `(tactic| first | with_reducible assumption | with_reducible exact List.mem_cons_self | (refine List.mem_cons_of_mem _ ?_; tb_rel) | (refine List.mem_append.mpr (Or.inl ?_); tb_rel) | (refine List.mem_append.mpr (Or.inr ?_); tb_rel))
local macro_rules | `(tactic| k_mem) => `(tactic| tb_rel)
-- row
local macro_rules | `(tactic| walk_at "call ref") => `(tactic| (k_here; (with_reducible show wpAny _ _ (call (Value.ref 133) [Value.ref _]) _ _ _); k_dflt (refine' row_rule ?k1 ?k2 ?k3 ?k4 ?k5 ?kK ?hs ?hi ?hn ?kd ?_; (case k1 => k_asm); (case k2 => k_asm); (case k3 => k_asm); (case k4 => k_asm); (case k5 => k_asm); (case kK => (first | exact rfl | assumption)); (case hs => first | with_reducible assumption | assumption); (case hi => first | with_reducible assumption | assumption); (case hn => omega); (case kd => ktr_room); k_whole); intro R' vs' ds' c' tl' h' tk' hd' hn' hp' hq' F' N'; (try k_sweep); (try dsimp only)))
-- compare
local macro_rules | `(tactic| walk_at "call ref") => `(tactic| (k_here; (with_reducible show wpAny _ _ (call (Value.ref 119) [Value.ref _, Value.ref _]) _ _ _); k_dflt (refine' cmp_rule ?k1 ?k2 ?k3 ?k4 ?k5 ?kK ?kx ?ky ?lx ?ly ?kd ?_; (case k1 => k_asm); (case k2 => k_asm); (case k3 => k_asm); (case k4 => k_asm); (case k5 => k_asm); (case kK => (first | exact rfl | assumption)); (case kx => tb_rel); (case ky => tb_rel); (case lx => first | with_reducible assumption | exact Mine.Lv.mono (by with_reducible assumption) (by decide) (by decide) | exact ⟨by decide, by decide, by decide⟩); (case ly => first | with_reducible assumption | exact Mine.Lv.mono (by with_reducible assumption) (by decide) (by decide) | exact ⟨by decide, by decide, by decide⟩); (case kd => ktr_room); k_whole); intro r' t' h' tk' hC' F' N'; unfold Mine.Cm at hC'; (first | (have hr' := hC'.1 (by omega)) | (have hr' := hC'.2.1 (by omega)) | (have hr' := hC'.2.2 (by omega))); clear hC'; subst hr'; (try k_sweep); (try dsimp only)))
-- plus
local macro_rules | `(tactic| walk_at "call ref") => `(tactic| (k_here; (with_reducible show wpAny _ _ (call (Value.ref 91) [Value.ref _, Value.ref _]) _ _ _); k_dflt (refine' plus_rule ?k1 ?k2 ?k3 ?k4 ?k5 ?kK ?kx ?ky ?lx ?ly ?kd ?_; (case k1 => k_asm); (case k2 => k_asm); (case k3 => k_asm); (case k4 => k_asm); (case k5 => k_asm); (case kK => (first | exact rfl | assumption)); (case kx => tb_rel); (case ky => tb_rel); (case lx => with_reducible assumption); (case ly => with_reducible assumption); (case kd => ktr_room); k_whole); intro u' v' D' t1' t2' c' h' tk' lv' hN' hX' F' N' l'; (try k_sweep); (try dsimp only)))
-- minus
local macro_rules | `(tactic| walk_at "call ref") => `(tactic| (k_here; (with_reducible show wpAny _ _ (call (Value.ref 98) [Value.ref _, Value.ref _]) _ _ _); k_dflt (refine' minus_rule ?k1 ?k2 ?k3 ?k4 ?k5 ?kK ?kx ?ky ?lx ?ly ?kd ?_; (case k1 => k_asm); (case k2 => k_asm); (case k3 => k_asm); (case k4 => k_asm); (case k5 => k_asm); (case kK => (first | exact rfl | assumption)); (case kx => tb_rel); (case ky => tb_rel); (case lx => with_reducible assumption); (case ly => with_reducible assumption); (case kd => ktr_room); k_whole); intro u' v' D' t1' t2' c' h' tk' lv' hN' hX' F' N' l'; (first | (have hs' := Mine.sgn_lt hX' (by with_reducible assumption)) | (have hs' := Mine.sgn_gt hX' (by with_reducible assumption)) | (have hs' := Mine.sgn_eq hX' (by with_reducible assumption))); clear hX' hN'; (try k_sweep); (try dsimp only)))
-- half
local macro_rules | `(tactic| walk_at "call ref") => `(tactic| (k_here; (with_reducible show wpAny _ _ (call (Value.ref 105) [Value.ref _, Value.ref _]) _ _ _); k_dflt (refine' half_rule ?k1 ?k2 ?k3 ?k4 ?k5 ?kK ?kx ?ky ?lx ?kd ?_; (case k1 => k_asm); (case k2 => k_asm); (case k3 => k_asm); (case k4 => k_asm); (case k5 => k_asm); (case kK => (first | exact rfl | assumption)); (case kx => tb_rel); (case ky => tb_rel); (case lx => first | with_reducible assumption | exact Mine.Lv.mono (by with_reducible assumption) (by decide) (by decide)); (case kd => ktr_room); k_whole); intro u' v' D' t1' t2' c' h' tk' lv' hN' hX' F' N' l'; (try k_sweep); (try dsimp only)))
-- negated
local macro_rules | `(tactic| walk_at "call ref") => `(tactic| (k_here; (with_reducible show wpAny _ _ (call (Value.ref 112) [Value.ref _]) _ _ _); k_dflt (refine' Mine.neg_rule2 ?k1 ?k2 ?k3 ?k4 ?k5 ?kK ?kx ?lx ?kd ?_; (case k1 => k_asm); (case k2 => k_asm); (case k3 => k_asm); (case k4 => k_asm); (case k5 => k_asm); (case kK => (first | exact rfl | assumption)); (case kx => tb_rel); (case lx => with_reducible assumption); (case kd => ktr_room); k_whole); intro u' D' t1' t2' c' h' tk' lv' hX' F' N' l'; (try k_sweep); (try dsimp only)))
-- put
local macro_rules | `(tactic| walk_at "call ref") => `(tactic| (k_here; (with_reducible show wpAny _ _ (call (Value.ref 140) [Value.ref _, Value.ref _]) _ _ _); k_dflt (refine' put_rule ?k1 ?k2 ?k3 ?k4 ?k5 ?kK ?kl ?kx ?kd ?lx ?hz ?kp ?_; (case k1 => k_asm); (case k2 => k_asm); (case k3 => k_asm); (case k4 => k_asm); (case k5 => k_asm); (case kK => (first | exact rfl | assumption)); (case kl => tb_rel); (case kx => tb_rel); (case kd => with_reducible assumption); (case lx => first | with_reducible assumption | exact Mine.Lv.mono (by with_reducible assumption) (by decide) (by decide)); (case hz => with_reducible assumption); (case kp => ktr_room); k_whole); intro D' i' n' h' tk' hi' hU' hW' F' N' l'; (try dsimp only)))
-- a store into the cell
local macro_rules | `(tactic| walk_at "storeName") => `(tactic| (k_here; k_dflt (refine' Mine.store_cell ?F ?N ?c ?m ?d ?_ ?a ?b; (case a => rfl); (case b => rfl); (case F => k_asm); (case N => k_asm); (case c => rfl); (case m => tb_rel); (case d => with_reducible assumption); k_whole); refine Mine.Rest.mk ?_))
-- rests
local macro_rules | `(tactic| walk_at "ite") => `(tactic| k_dflt (first
  | (refine PySem.W.ite_pos (by simp only [Mine.bne_dec2, Mine.beq_dec, Mine.bne_dec, decide_eq_true_eq, Bool.not_eq_true', decide_eq_false_iff_not]; omega) ?_)
  | (refine PySem.W.ite_neg (by simp only [Mine.bne_dec2, Mine.beq_dec, Mine.bne_dec, decide_eq_true_eq, Bool.not_eq_true', decide_eq_false_iff_not]; omega) ?_)))
local macro_rules | `(tactic| walk_at "subscriptTail Call") => `(tactic| (k_here; (with_reducible show wpAny _ _ (subscriptTail _ _ (Value.ref _) (Value.int 0 _)) _ _ _); k_dflt (refine item_tupleT (by exact News.isTup (by k_asm) (by tb_rel)) (by decide) (by decide) rfl rfl ?_ (by with_unfolding_all rfl))))
local macro_rules | `(tactic| walk_at "exec For Name Name cons nil") => `(tactic| (k_here; (rename Fr _ _ _ _ => lF'); (with_unfolding_all refine' For_invVF lF' ?k1 ?k2 ?_; (case k1 => exact rfl); (case k2 => exact rfl); k_whole)))
local macro_rules | `(tactic| walk_at "exec For Name Call cons nil") => `(tactic| (k_here; (rename Fr _ _ _ _ => lF'); (with_unfolding_all refine' For_invVF lF' ?k1 ?k2 ?_; (case k1 => exact rfl); (case k2 => exact rfl); k_whole)))
local macro_rules | `(tactic| walk_at "pyIter ref") => `(tactic| (refine Mine.Rest.mk ?_))
local macro_rules | `(tactic| walk_at "eval ListComp") => `(tactic| (refine Mine.Rest.mk ?_))
local macro_rules | `(tactic| walk_at "exec Assign cons ListComp") => `(tactic| (refine Mine.Rest.mk ?_))
local macro_rules | `(tactic| walk_at "TPost") => `(tactic| (dsimp only [Mine.TPost]))
local macro_rules | `(tactic| walk_at "TEnd") => `(tactic| (refine Mine.Rest.mk ?_))
local macro_rules | `(tactic| walk_at "subscriptTail Name UnaryOp ref int") => `(tactic| (k_here; k_dflt (refine Mine.dlast (by k_asm) (by tb_rel) (by with_reducible assumption) (fun p hp => by tb_rel) (by with_reducible assumption) (by with_reducible assumption) ?_ ?_; rotate_left; with_unfolding_all rfl; intro a' u' s' t1' t2' c' hi' hm' lv')))
local macro_rules | `(tactic| walk_at "compareOp Eq ref ref") => `(tactic| (k_here; (with_reducible show wpAny _ _ (compareOp CmpOp.Eq (Value.ref _) (Value.ref _)) _ _ _); k_dflt (refine Mine.deq (by k_asm) (by tb_rel) (by tb_rel) (by ke_room) ?_); (first | rw [decide_eq_false (by assumption)] | rw [decide_eq_true (by assumption)])))
local macro_rules | `(tactic| walk_at "call builtin:len") => `(tactic| (k_here; (with_reducible show wpAny _ _ (call (Value.builtin "len") [Value.ref _]) _ _ _); k_dflt (refine Mine.dlen3 (by k_asm) (by tb_rel) (by with_reducible assumption) (by with_reducible assumption) ?_)))
local macro_rules | `(tactic| walk_at "subscriptTail Name Name ref int") => `(tactic| (k_here; k_dflt (refine Mine.ditem3 (by k_asm) (by tb_rel) (by with_reducible assumption) (fun p hp => by tb_rel) (by with_reducible assumption) (Mine.At0.is (by with_reducible assumption)) (by first | rfl | omega) ?_ ?_; rotate_left; with_unfolding_all rfl; intro a' t1' t2' c' hv' hm' lv')))
local macro_rules | `(tactic| walk_at "subscriptTail Name BinOp ref int") => `(tactic| (k_here; k_dflt (refine Mine.ditem3 (by k_asm) (by tb_rel) (by with_reducible assumption) (fun p hp => by tb_rel) (by with_reducible assumption) (Mine.At1.is (by with_reducible assumption)) (by first | rfl | omega) ?_ ?_; rotate_left; with_unfolding_all rfl; intro a' t1' t2' c' hv' hm' lv')))
local macro_rules | `(tactic| walk_at "call type:range") => `(tactic| (k_here; k_dflt (refine' range1_rows ?F ?N ?_; (case F => k_asm); (case N => k_asm)); intro h' tk' t1' t2' t3' hR' F' N' hK'; (try dsimp only)))
local macro_rules | `(tactic| walk_at "CompSrcT") => `(tactic| (refine Mine.Rest.mk ?_))
local macro_rules | `(tactic| walk_at "CompSrc") => `(tactic| (refine Mine.Rest.mk ?_))
local macro_rules | `(tactic| walk_at "And") => `(tactic| ((with_reducible show _ = false ∧ Mine.Cp.End0 _ _ _ _ _ _); refine Mine.Rest.mk ?_))
local macro_rules | `(tactic| walk_at "End1") => `(tactic| (refine Mine.Rest.mk ?_))
set_option maxRecDepth 100000 in
set_option maxHeartbeats 8000000 in
theorem law_holds : PySem.Challenge.rw_pb0221_01.Holds := MineT.hd (by
  k_go0
  all_goals (try k_fold)
  (rename ¬ (_ : Int) < _ => hlen9)
  have hlen8 := Int.not_lt.mp hlen9
  k_steps
  (rename Fr _ _ _ _ => kF); (rename News _ _ _ _ => kN0); (rename Decs _ _ _ _ _ => hd0); (rename ∀ d ∈ _, Norm _ _ => hnm)
  obtain ⟨led, kN, hR, hc0, hd⟩ := Mine.row_led kN0 hd0
  clear kN0 hd0
  refine Mine.Rest.of (Mine.lst_iter0 [Str.ofString "one", Str.ofString "other", Str.ofString "way", Str.ofString "left", Str.ofString "more"] rfl hR kF kN ?_ ?_)
  · clear kF kN
    intro i v u h9 tk9 own hv hoff F9 N9
    obtain ⟨⟨u1, s1⟩, e1, hD1⟩ := hd.get i hv
    obtain ⟨a1, t1, t2, c1, rfl, hm1, lv1⟩ := hD1.is
    have nm1 := hnm _ (List.mem_of_getElem? e1)
    dsimp only at F9 N9 lv1 hm1 nm1 ⊢
    k_steps
    (rename Fr _ _ _ _ => kF); (rename News _ _ _ _ => kN)
    refine Mine.Rest.of (Mine.lst_iter0 [Str.ofString "other", Str.ofString "way", Str.ofString "left", Str.ofString "more"] rfl (by tb_rel) kF kN ?_ ?_)
    · clear kF kN
      intro j v u h9 tk9 own2 hv2 hoff2 F9 N9
      obtain ⟨⟨u2, s2⟩, e2, hD2⟩ := hd.get j hv2
      obtain ⟨a2, t3, t4, c2, rfl, hm2, lv2⟩ := hD2.is
      have nm2 := hnm _ (List.mem_of_getElem? e2)
      dsimp only at F9 N9 lv2 hm2 nm2 ⊢
      have hEq := Mine.Eq_iff lv1 lv2 (by decide) nm1 nm2
      rcases Int.lt_trichotomy (Mine.X u1 s1) (Mine.X u2 s2) with c | c | c
      · (have hE : ¬ (u1 = u2 ∧ s1 = s2) := fun e => absurd (hEq.mpr e) (Int.ne_of_lt c)); clear hEq
        k_steps
        (rename Fr _ _ _ _ => kF); (rename News _ _ _ _ => kN)
        refine Mine.Rest.of (Mine.TEnd.same kF kN hoff2 (fun p hp => by tb_rel) ?_)
        repeat (first | exact Mine.Kept.kmap | refine Mine.Kept.put ?_ (by rfl))
      · (have hE : u1 = u2 ∧ s1 = s2 := hEq.mp c); clear hEq
        k_steps
        (rename Fr _ _ _ _ => kF); (rename News _ _ _ _ => kN)
        refine Mine.Rest.of (Mine.TEnd.same kF kN hoff2 (fun p hp => by tb_rel) ?_)
        repeat (first | exact Mine.Kept.kmap | refine Mine.Kept.put ?_ (by rfl))
      · (have hE : ¬ (u1 = u2 ∧ s1 = s2) := fun e => absurd (hEq.mpr e) (Int.ne_of_gt c)); clear hEq
        k_steps
        (rename Fr _ _ _ _ => kF); (rename News _ _ _ _ => kN)
        refine Mine.Rest.of (Mine.TEnd.same kF kN hoff2 (fun p hp => by tb_rel) ?_)
        repeat (first | exact Mine.Kept.kmap | refine Mine.Kept.put ?_ (by rfl))
    · clear kF kN
      intro u h9 tk9 F9 N9
      dsimp only at F9 N9 ⊢
      k_steps
      (rename Fr _ _ _ _ => kF); (rename News _ _ _ _ => kN)
      refine Mine.Rest.of (Mine.TEnd.same kF kN hoff (fun p hp => by tb_rel) ?_)
      exact Mine.Kept.kmapIn (Mine.Kept.put Mine.Kept.kmap (by rfl)) (by rfl)
  · clear kF kN
    intro u h9 tk9 F9 N9
    dsimp only at F9 N9 ⊢
    k_steps
    refine Mine.Rest.of ?_
    (rename News _ _ _ _ => kN)
    intro h8 o8 kF8 kN8 hd8
    have hI0 := Mine.ord_start kN (List.mem_cons_of_mem _ hc0) (by with_reducible assumption) (by tb_rel) (by tb_rel) (hd.mono fun p hp => by tb_rel) hd8
    clear kN
    dsimp only
    k_steps
    (rename Fr _ _ _ _ => kF); (rename News _ _ _ _ => kN)
    refine Mine.Rest.of (Mine.lst_iter [Str.ofString "worth"] (Mine.OrdI _ _ _ _ _) rfl (by obtain ⟨o, l, vs', ds', n, S⟩ := hI0; exact S.row) kF kN hI0 (fun i nx hI => by obtain ⟨o, l, vs', ds', n, S⟩ := hI; exact S.row) ?_ ?_)
    · clear kF kN
      rintro i v u nx h9 tk9 own hv hoff ⟨o, l, vs', ds', n, S⟩ F9 N9
      obtain ⟨⟨u1, s1⟩, e1, hD1⟩ := S.dec.get i hv
      obtain ⟨a1, t1, t2, c1, rfl, hm1, lv1⟩ := hD1.is
      have S1 := S.cell; have S2 := S.data; have S3 := S.lst
      have S4 : Decs (nx ++ own) 47 21 vs' ds' := (S.decs.mono fun p hp => List.mem_append.mpr (.inl hp)).lv (by decide) (by decide)
      have S5 : ds'.length ≤ 9 := by
        have h1 := S.len
        have h2 := (List.getElem?_eq_some_iff.mp hv).1
        have h3 := S.dec.length
        omega
      dsimp only at F9 N9 lv1 hm1 ⊢
      k_steps
      refine Mine.Rest.of ?_
      (rename News _ _ _ _ => kN); (rename AllLt _ _ => hA); (rename Mine.UpTo _ _ _ => hU); (rename _ ≤ List.length ds' => hi); (rename ∀ d, _ → _ ≤ Mine.Wd d => hW)
      intro h8 o8 kF8 kN8 hd8
      dsimp only
      k_steps
      refine Mine.Rest.of (Mine.ord_turn (d := (u1, s1)) kN hA hoff S (Mine.Dec.mk (d := (u1, s1)) hm1 lv1) hi hU hW kF8 kN8 hd8 ?_)
      repeat (first | exact Mine.Kept.kmap | refine Mine.Kept.put ?_ (by rfl))
    · clear kF kN hI0
      rintro u nx h9 tk9 ⟨o, l, vs', ds', n, S⟩ F9 N9
      have S1 := S.cell; have S2 := S.data; have S3 := S.lst; have S4 := S.decs
      have hup := S.up
      have hlen := S.len.trans S.dec.length
      have h90 : ds'.length ≤ 9 := by omega
      have h91 : 0 < ds'.length := by omega
      clear hlen S hd hnm hc0 hR
      obtain ⟨q, hq⟩ : ∃ q, ds'.length = q + 1 := ⟨ds'.length - 1, by omega⟩
      dsimp only at F9 N9 ⊢
      k_steps
      refine Mine.Rest.of ?_
      k_dflt (refine LCt.ListComp_T (F₀ := by k_asm) (by with_unfolding_all rfl) (by decide) (by rfl) (by decide) (by rfl) ?_)
      k_steps
      (rename Fr _ _ _ _ => kF); (rename News _ _ _ _ => kN); (rename IsRange _ _ _ _ _ _ _ _ => kR)
      have hb9 : (ds'.length : Int) - 1 = (q : Int) := by omega
      refine Mine.Rest.of (LCt.CompSrcT.range (n := q) rfl kF kN kR (Mine.rsmall hb9 (by omega)) (Mine.rsize hb9) (by rw [sizeLine_eq]; omega) ?_)
      intro g
      refine Mine.Cp.none_taken ?_ ?_
      rotate_left
      · clear kF kN kR
        intro i v I oI C oC D m₂ h9 tk9 E' hi hP hC hx F9 N9 off ne
        obtain ⟨t9, rfl⟩ := hP
        obtain ⟨⟨ua, sa⟩, ha⟩ : ∃ d, ds'[i]? = some d := ⟨_, List.getElem?_eq_getElem (by omega)⟩
        obtain ⟨⟨ub, sb⟩, hb⟩ : ∃ d, ds'[i + 1]? = some d := ⟨_, List.getElem?_eq_getElem (by omega)⟩
        have hab : Mine.X ua sa ≤ Mine.X ub sb := hup i _ _ ha hb
        have hA0 : Mine.At0 ds' i ua sa := ⟨ha⟩
        have hA1 : Mine.At1 ds' (i + 1) ub sb := ⟨hb⟩
        dsimp only at F9 N9 ⊢
        rcases Int.lt_or_eq_of_le hab with c | c
        · clear hab
          k_steps
          (rename Fr _ _ _ _ => kF); (rename News _ _ _ _ => kN)
          exact Mine.Rest.of ⟨by decide, Mine.Cp.End0.mk kF kN (fun p hp => by tb_rel)⟩
        · clear hab
          k_steps
          (rename Fr _ _ _ _ => kF); (rename News _ _ _ _ => kN)
          exact Mine.Rest.of ⟨by decide, Mine.Cp.End0.mk kF kN (fun p hp => by tb_rel)⟩
      · clear kF kN kR
        k_steps
        refine Mine.Rest.of ?_
        k_dflt (refine LCg.Assign_ListComp_U (F₀ := by k_asm) (by rfl) (by with_unfolding_all rfl) (by with_unfolding_all rfl) (by decide) (by rfl) (by decide) (by rfl) (by rfl) (by rfl) ?_)
        k_steps
        (rename Fr _ _ _ _ => kF); (rename News _ _ _ _ => kN); (rename IsRange _ _ _ _ _ _ _ _ => kR)
        refine Mine.Rest.of (LCg.CompSrc.range (n := q) rfl kF kN kR (Mine.rsmall hb9 (by omega)) (Mine.rsize hb9) (by rw [sizeLine_eq]; omega) ?_)
        intro g
        refine Mine.Cp.all_taken (Mine.MidI _ o l vs' ds' n) ⟨[], ⟨by tb_rel, by tb_rel, S4.mono (fun p hp => by tb_rel), trivial, rfl, Mine.Mids.nil⟩⟩ ?_ ?_
        all_goals (clear kF kN kR S1 S3 S4)
        rotate_left
        · rintro i ys nx2 v I oI C oC D m₂ h9 tk9 E' hi ⟨ms, S⟩ hP hC hx F9 N9 off ne
          obtain ⟨t9, rfl⟩ := hP
          obtain ⟨⟨ua, sa⟩, ha⟩ : ∃ d, ds'[i]? = some d := ⟨_, List.getElem?_eq_getElem (by omega)⟩
          obtain ⟨⟨ub, sb⟩, hb⟩ : ∃ d, ds'[i + 1]? = some d := ⟨_, List.getElem?_eq_getElem (by omega)⟩
          have hA0 : Mine.At0 ds' i ua sa := ⟨ha⟩
          have hA1 : Mine.At1 ds' (i + 1) ub sb := ⟨hb⟩
          have S1 := S.cell; have S3 := S.lst; have S4 := S.decs
          dsimp only at F9 N9 ⊢
          k_steps
          (rename Fr _ _ _ _ => kF); (rename News _ _ _ _ => kN); (rename AllLt _ _ => hA)
          refine Mine.Rest.of (Mine.mid_turn kF kN S off (by tb_rel) hA (fun p hp => by tb_rel) (fun p hp => by tb_rel) (by with_reducible assumption) ha hb ?_)
          omega
        · rintro ys nx2 ⟨ms, S⟩
          have S1 := S.cell; have S3 := S.lst; have S4 := S.decs; have S5 := S.mids
          have hm9 : ms.length = q := S.len
          have hm8 : ms.length ≤ 9 := by omega
          have hmid := S.is
          k_steps
          (rename Fr _ _ _ _ => kF); (rename News _ _ _ _ => kN); (rename IsRange _ _ _ _ _ _ _ _ => kR)
          refine Mine.Rest.of (Mine.rng_iter0 (n := ms.length) [Str.ofString "at"] rfl kR rfl (by omega) kF kN ?_ ?_)
          all_goals (clear kF kN kR)
          · intro i t u h9 tk9 own hi hoff F9 N9
            obtain ⟨⟨ua, sa⟩, ha⟩ : ∃ d, ds'[i]? = some d := ⟨_, List.getElem?_eq_getElem (by omega)⟩
            obtain ⟨⟨ub, sb⟩, hb⟩ : ∃ d, ds'[i + 1]? = some d := ⟨_, List.getElem?_eq_getElem (by omega)⟩
            obtain ⟨⟨um, sm⟩, hm⟩ : ∃ d, ms[i]? = some d := ⟨_, List.getElem?_eq_getElem (by omega)⟩
            have hab : Mine.X ua sa ≤ Mine.X ub sb := hup i _ _ ha hb
            have h2m : 2 * Mine.X um sm = Mine.X ua sa + Mine.X ub sb := hmid i _ _ _ hm ha hb
            have hA0 : Mine.At0 ds' i ua sa := ⟨ha⟩
            have hA1 : Mine.At1 ds' (i + 1) ub sb := ⟨hb⟩
            have hAm : Mine.At0 ms i um sm := ⟨hm⟩
            dsimp only at F9 N9 ⊢
            rcases Int.lt_or_eq_of_le hab with c | c
            · clear hab
              k_steps
              (rename Fr _ _ _ _ => kF); (rename News _ _ _ _ => kN)
              refine Mine.Rest.of (Mine.TEnd.same kF kN hoff (fun p hp => by tb_rel) ?_)
              repeat (first | exact Mine.Kept.kmap | refine Mine.Kept.put ?_ (by rfl))
            · clear hab
              k_steps
              (rename Fr _ _ _ _ => kF); (rename News _ _ _ _ => kN)
              refine Mine.Rest.of (Mine.TEnd.same kF kN hoff (fun p hp => by tb_rel) ?_)
              repeat (first | exact Mine.Kept.kmap | refine Mine.Kept.put ?_ (by rfl))
          · intro u h9 tk9 F9 N9
            have x1 := Mine.lit1
            have x2 := Mine.lit2
            have x3 := Mine.lit3
            dsimp only at F9 N9 ⊢
            k_steps)

end Mine
theorem PySem.Challenge.cw_pb0221_01_holds : PySem.Challenge.rw_pb0221_01.Holds := by
  exact Mine.law_holds
