import PyProof.Rows.All
import Wide.All
import OpenK.AllK
import Wide.FinOn
import KE.IntBitsLaws
import KE.LcTurns
import KE.KLcPair
import KE.KPairComp
import PyProof.ZipIter
import PyProof.WalksU
import PyProof.WalksMore
import PyProof.Rows.RangeIter
import KE.KTreeN
import PyProof.Rows.AccFoldV
import PyProof.ListIndex
import PyProof.Rows.StrTemp
import OpenK.KRaise
import KE.KItem
import KE.KTurns
import PyProof.Cells
import KE.KLcTest
import KE.KTurnsDict
import PyProof.DictRoadsH
import PyProof.PlainList
import PySem.Challenge.RW_xm0049_02
set_option Elab.async false
set_option maxRecDepth 100000
noncomputable section
-- QLib
namespace Mine
open PySem PySem.Builtin.Int
theorem sub_less {n i : Nat} (h : i < n) : n + 1 - (i + 1) < n + 1 - i := Nat.sub_lt_sub_left (Nat.lt_succ_of_lt h) (Nat.lt_succ_self i)
theorem sub_succ {l c i : Nat} (h : c + i < l) : l - c - i = (l - c - (i + 1)) + 1 := by
  rw [Nat.sub_sub, Nat.sub_sub, ← Nat.add_assoc, Nat.sub_add_eq l (c + i) 1]
  exact (Nat.sub_add_cancel (Nat.sub_pos_of_lt h)).symm
theorem sub_step {n c : Nat} (h : c < n) : n - c = n - (c + 1) + 1 := by
  rw [Nat.sub_add_eq n c 1]
  exact (Nat.sub_add_cancel (Nat.sub_pos_of_lt h)).symm
theorem lt9 {n : Nat} (h : n ≤ 10000) : ((n : Nat) : Int).natAbs < 10 ^ 9 := Nat.lt_of_le_of_lt h (by decide)
theorem ne0 {n : Nat} (h : 1 ≤ n) : ((n : Nat) : Int) ≠ 0 := fun e => Nat.ne_of_gt h (Int.natCast_eq_zero.mp e)
theorem pos_abs {d : Int} (h : d ≠ 0) : 1 ≤ d.natAbs := Int.natAbs_pos.mpr h
theorem bits9 {x : Int} (h : x.natAbs < 10 ^ 9) : intBits x ≤ 64 := intBits_le_64 (by lia) (by lia)
theorem abs_neg {d : Int} (h : d < 0) : ((d.natAbs : Nat) : Int) = -d := Int.ofNat_natAbs_of_nonpos (Int.le_of_lt h)
theorem abs_id {d : Int} (h : ¬ d < 0) : ((d.natAbs : Nat) : Int) = d := Int.natAbs_of_nonneg (Int.not_lt.mp h)
theorem nat_neg {d : Int} (h : d < 0) : (-d).toNat = d.natAbs := (congrArg Int.toNat (abs_neg h)).symm.trans (Int.toNat_natCast _)
theorem nat_id {d : Int} (h : ¬ d < 0) : d.toNat = d.natAbs := (congrArg Int.toNat (abs_id h)).symm.trans (Int.toNat_natCast _)
theorem abs_nn (d : Int) : 0 ≤ (if d < 0 then -d else d) := by
  split
  · exact Int.neg_nonneg_of_nonpos (Int.le_of_lt (by assumption))
  · exact Int.not_lt.mp (by assumption)
theorem below3 {o : Nat} (h : (o : Int) < 3) : 1 ≤ 3 - (o : Int) := Int.sub_pos_of_lt h
theorem fill_sum {z : Int} {j v : Nat} (h : (z = 0 ∨ z = 1) ∧ (j = 0 → z = 1)) : z + (v : Int) = ((z.toNat + v : Nat) : Int) := by rcases h.1 with rfl | rfl <;> rfl
theorem fill_le {z : Int} {j v : Nat} (h : (z = 0 ∨ z = 1) ∧ (j = 0 → z = 1)) (hv : (v : Int) < 3) : z.toNat + v ≤ 3 :=
  Nat.le_trans (Nat.add_le_add (show z.toNat ≤ 1 by rcases h.1 with rfl | rfl <;> decide) (Nat.le_of_lt_succ (Int.ofNat_lt.mp hv))) (by decide)
theorem fill_one {z : Int} {j v : Nat} (h : (z = 0 ∨ z = 1) ∧ (j = 0 → z = 1)) (hj : j = 0) : 1 ≤ z.toNat + v := by rw [h.2 hj]; exact Nat.le_add_right ..
theorem gcd_step (x y : Int) (hy : 0 < y) : Int.gcd y (x.fmod y) = Int.gcd x y := by
  rw [Int.fmod_eq_emod_of_nonneg _ (Int.le_of_lt hy)]
  have h : x = x % y + y * (x / y) := (Int.emod_add_mul_ediv x y).symm
  rw [Int.gcd_comm x y]
  conv => rhs; rw [h]
  simp
theorem gcd_abs (a b : Int) : Int.gcd (if a < 0 then -a else a) (if b < 0 then -b else b) = Int.gcd a b := by
  split <;> split <;> simp [Int.gcd_neg, Int.neg_gcd]

theorem gcd_turn {x y : Int} {g : Nat} (hy : 0 < y) (hx : 0 ≤ x) (hg : Int.gcd x y = g) : 0 ≤ y ∧ 0 ≤ x.fmod y ∧ Int.gcd y (x.fmod y) = g :=
  ⟨Int.le_of_lt hy, Int.fmod_nonneg_of_pos _ hy, by rw [gcd_step _ _ hy]; exact hg⟩
theorem gcd_start (a b : Int) : 0 ≤ (if a < 0 then -a else a) ∧ 0 ≤ (if b < 0 then -b else b) ∧ Int.gcd (if a < 0 then -a else a) (if b < 0 then -b else b) = Int.gcd a b :=
  ⟨abs_nn a, abs_nn b, gcd_abs a b⟩
theorem gcd_less {x y : Int} (hy : 0 < y) : (x.fmod y).toNat < y.toNat := by
  exact (Int.toNat_lt_toNat hy).mpr (Int.fmod_lt_of_pos x hy)
theorem gcd_end {x y : Int} {g : Nat} (hy : ¬ 0 < y) (hy' : 0 ≤ y) (hx : 0 ≤ x) (hg : Int.gcd x y = g) : x = (g : Int) := by
  rw [Int.le_antisymm (Int.not_lt.mp hy) hy', Int.gcd_zero] at hg
  exact (Int.natAbs_of_nonneg hx).symm.trans (congrArg _ hg)
theorem part_ne {a b : Int} (hb : b ≠ 0) : ((Int.gcd a b : Nat) : Int) ≠ 0 := fun e => Int.gcd_ne_zero_right (a := a) hb (Int.natCast_eq_zero.mp e)
theorem fr_num_pos {a b : Int} (hb : 0 < b) : a.fdiv (Int.gcd a b : Nat) = (Rat.divInt a b).num := by
  rw [Rat.num_divInt, Int.sign_eq_one_of_pos hb, Int.one_mul, Int.gcd_comm, Int.fdiv_eq_ediv_of_nonneg _ (Int.natCast_nonneg _)]
theorem fr_den_pos {a b : Int} (hb : 0 < b) : b.fdiv (Int.gcd a b : Nat) = ((Rat.divInt a b).den : Int) := by
  rw [Rat.den_divInt, if_neg (Int.ne_of_gt hb), Int.gcd_comm, Int.fdiv_eq_ediv_of_nonneg _ (Int.natCast_nonneg _)]
  have : (b.natAbs : Int) = b := Int.natAbs_of_nonneg (Int.le_of_lt hb)
  rw [Int.natCast_ediv, this]
theorem fdiv_neg_of_dvd {a g : Int} (h : g ∣ a) : a.fdiv (-g) = -(a / g) := by
  rw [Int.fdiv_eq_ediv_of_dvd (by rwa [Int.neg_dvd]), Int.ediv_neg]
theorem fr_num_neg {a b : Int} (hb : b < 0) : a.fdiv (-((Int.gcd a b : Nat) : Int)) = (Rat.divInt a b).num := by
  rw [Rat.num_divInt, Int.sign_eq_neg_one_of_neg hb, Int.gcd_comm, fdiv_neg_of_dvd (by rw [Int.gcd_comm]; exact Int.gcd_dvd_left ..)]
  have : -1 * a = -a := Int.neg_one_mul a
  rw [this, Int.neg_ediv_of_dvd (Int.gcd_dvd_right ..)]
theorem fr_den_neg {a b : Int} (hb : b < 0) : b.fdiv (-((Int.gcd a b : Nat) : Int)) = ((Rat.divInt a b).den : Int) := by
  rw [Rat.den_divInt, if_neg (Int.ne_of_lt hb), Int.gcd_comm, fdiv_neg_of_dvd (Int.gcd_dvd_left ..)]
  have : (b.natAbs : Int) = -b := abs_neg hb
  rw [Int.natCast_ediv, this, Int.neg_ediv_of_dvd (Int.gcd_dvd_left ..)]

theorem bits_num {a b : Int} {k : Nat} (ha : intBits a ≤ k) : intBits (Rat.divInt a b).num ≤ k := by
  refine intBits_le_of_natAbs ?_ ha
  rw [Rat.num_divInt]
  refine Nat.le_trans (Int.natAbs_ediv_le_natAbs _ _) ?_
  rw [Int.natAbs_mul]
  have : b.sign.natAbs ≤ 1 := by rcases Int.lt_trichotomy b 0 with h | h | h <;> simp [Int.sign_eq_neg_one_of_neg, Int.sign_eq_one_of_pos, h]
  calc _ ≤ 1 * a.natAbs := Nat.mul_le_mul_right _ this
    _ = _ := Nat.one_mul _
theorem bits_den {a b : Int} {k : Nat} (hk : 1 ≤ k) (hb : intBits b ≤ k) : intBits ((Rat.divInt a b).den : Int) ≤ k := by
  rw [Rat.den_divInt]
  split
  · exact Nat.le_trans (by decide) hk
  · refine intBits_le_of_natAbs ?_ hb
    rw [Int.natAbs_natCast]
    exact Nat.div_le_self _ _

theorem log_gcd {a b : Int} (hb : b ≠ 0) (h : intBits b ≤ 8000) : ((Int.gcd a b : Nat) : Int).natAbs.log2 < 9000 := by
  have h1 := intBits_le_iff.mp h
  have h2 := Int.gcd_le_natAbs_right a hb
  have h3 : Int.gcd a b < 2 ^ 8000 := Nat.lt_of_le_of_lt h2 h1
  rw [Int.natAbs_natCast]
  exact Nat.lt_of_lt_of_le ((Nat.log2_lt (Int.gcd_ne_zero_right hb)).mpr h3) (by decide)
theorem log_gcd_neg {a b : Int} (hb : b ≠ 0) (h : intBits b ≤ 8000) : (-((Int.gcd a b : Nat) : Int)).natAbs.log2 < 9000 := by
  rw [Int.natAbs_neg]; exact log_gcd hb h

/-- both the numbers of a fraction keep within k bits -/
def Qb (k : Nat) (q : Rat) : Prop := intBits q.num ≤ k ∧ intBits (q.den : Int) ≤ k
theorem Qb.mono {j k : Nat} {q : Rat} (h : Qb j q) (hjk : j ≤ k) : Qb k q := ⟨Nat.le_trans h.1 hjk, Nat.le_trans h.2 hjk⟩
theorem den_ne (q : Rat) : (q.den : Int) ≠ 0 := fun e => q.den_nz (Int.natCast_eq_zero.mp e)
theorem Qb.one_le {k : Nat} {q : Rat} (h : Qb k q) : 1 ≤ k := by
  have h2 := h.2
  rcases Nat.eq_zero_or_pos k with rfl | hk
  · exfalso
    have := intBits_le_iff.mp h2
    have := q.den_nz
    simp at *
    lia
  · exact hk
theorem mulOk_of {x y : Int} {j k : Nat} (hx : intBits x ≤ j) (hy : intBits y ≤ k) (h : j + k ≤ 100000000) : IntMulOk x y := by
  unfold IntMulOk intTooBig
  have e := bitsLine_eq
  simp only [Bool.and_eq_true, decide_eq_true_eq, not_and]
  intros
  lia

theorem times_is (p q : Rat) : Rat.divInt (p.num * q.num) (p.den * q.den) = p * q := by
  conv => rhs; rw [← Rat.num_divInt_den p, ← Rat.num_divInt_den q]
  rw [Rat.divInt_mul_divInt]
theorem less_is (p q : Rat) : Rat.divInt (p.num * q.den - q.num * p.den) (p.den * q.den) = p - q := by
  conv => rhs; rw [← Rat.num_divInt_den p, ← Rat.num_divInt_den q]
  rw [Rat.divInt_sub_divInt _ _ (den_ne p) (den_ne q)]
theorem by_is (p q : Rat) : Rat.divInt (p.num * q.den) (p.den * q.num) = p / q := by
  conv => rhs; rw [← Rat.num_divInt_den p, ← Rat.num_divInt_den q, Rat.div_def, Rat.inv_divInt]
  rw [Rat.divInt_mul_divInt]
theorem Qb.mul {j k : Nat} {p q : Rat} (hp : Qb j p) (hq : Qb k q) : Qb (j + k) (p * q) := by
  rw [← times_is]
  have := hp.one_le
  exact ⟨bits_num (intBits_mul_le hp.1 hq.1), bits_den (Nat.le_trans this (Nat.le_add_right ..)) (intBits_mul_le hp.2 hq.2)⟩
theorem Qb.sub {j k : Nat} {p q : Rat} (hp : Qb j p) (hq : Qb k q) : Qb (j + k + 1) (p - q) := by
  rw [← less_is]
  have h := intBits_sub_le (intBits_mul_le hp.1 hq.2) (intBits_mul_le hq.1 hp.2)
  exact ⟨bits_num (by rwa [Nat.add_comm k j, Nat.max_self] at h), bits_den (Nat.succ_le_succ (Nat.zero_le _)) (Nat.le_succ_of_le (intBits_mul_le hp.2 hq.2))⟩
theorem Qb.div {j k : Nat} {p q : Rat} (hp : Qb j p) (hq : Qb k q) : Qb (j + k) (p / q) := by
  rw [← by_is]
  have := hp.one_le
  exact ⟨bits_num (intBits_mul_le hp.1 hq.2), bits_den (Nat.le_trans this (Nat.le_add_right ..)) (intBits_mul_le hp.2 hq.1)⟩
theorem num_ne {q : Rat} (h : q ≠ 0) : q.num ≠ 0 := fun e => h (Rat.num_eq_zero.mp e)
end Mine
-- Comp
set_option maxHeartbeats 4000000
set_option maxRecDepth 100000
namespace Mine
open PySem PySem.Spec PySem.Calls PyProof.Rows PyProof.Rows.LCg

/-- the end of a turn of a comprehension: what the loop itself keeps (own) stands, the ledger led₁ has become led₂ -/
def CompOut (h₀ : Heap) (L : Addr) (m : Str → Option Value) (s₁ : Shared) (own led₁ : List (Addr × Obj)) (J : Value → List (Addr × Obj) → Prop) (v : Value) (s₂ : Shared) : Prop :=
  ∃ h' tk led₂, s₂ = { s₁ with heap := h', toks := tk } ∧ Fr h₀ L h' m ∧ News h₀ L h' (own ++ led₂) ∧ (∀ p ∈ led₂, (∃ q ∈ led₁, q.1 = p.1) ∨ ∀ q ∈ own, q.1 < p.1) ∧ J v led₂

theorem hid0 {G : Prop} (h : ∀ H : Prop, (G → H) → H) : G := h G id
section
variable {prog : Program} {w : World} {A : Around} {E : Value → Shared → Prop} {s : Shared} {h₀ : Heap} {L : Addr} {m : Str → Option Value} {env : Env}

theorem comp1_block {elt iter : Expr} {x : Str} {px : Pos} {scope : Scope} {cl : List (Str × Addr)} {pos : Pos} {s₂ : Shared} {I : Addr} {fp wr : List Addr} {n : Nat} {P : Nat → Value → Prop} {St : Nat → Heap → Prop} {led : List (Addr × Obj)}
    {RR : Value → Addr → Result → Shared → Prop}
    (W : Walks prog w A I fp wr n P St) (hsz : n ≤ sizeLine)
    (hcell : ∀ y ∈ scope.names, y.2 ≠ .cell) (hkind : scope.kind = .function) (hx : scope.names.lookup x = some .local) (hst : St 0 s₂.heap) (hlive : ∀ i h, St i h → ∀ b ∈ fp, ∃ o, h.get? b = some o)
    (F : Fr h₀ L s₂.heap m) (N : News h₀ L s₂.heap led) (hLf : L ∉ fp) (hwr : ∀ b ∈ wr, h₀.get? b = none) (hnw : ∀ p ∈ led, p.1 ∉ wr)
    (J : Nat → List Value → List (Addr × Obj) → Prop) (h0 : J 0 [] led)
    (turn : ∀ i v ys led₁ own C oC m₂ h tk (E' : Value → Shared → Prop), i < n → P i v → J i ys led₁ → (C, oC) ∈ own → (∀ q ∈ own, q.1 ∈ fp ∨ ∀ p ∈ led, p.1 < q.1) → NsObj oC m₂ → m₂ x = some v → Fr h₀ L h m → News h₀ L h (own ++ led₁) →
      wpAny (model prog w) A (eval elt (compEnvC scope cl C env)) (CompOut h₀ L m { s₂ with heap := h, toks := tk } own led₁ (fun y led₂ => J (i + 1) (ys ++ [y]) led₂)) E' { s₂ with heap := h, toks := tk })
    (hRR : ∀ D C h tk m' ys led₁, Fr h₀ L h m → News h₀ L h ((D, lst ys) :: led₁) → (∀ p ∈ led₁, p.1 ≠ D) → (∀ p ∈ led, p.1 < D) → h.Ns C m' → h₀.get? C = none → h₀.get? D = none → C ≠ L → D ≠ L → C ≠ D → (∀ p ∈ led₁, p.1 ≠ C) → ys.length = n → J n ys led₁ → RR (.ref D) C (.ok .next) { s₂ with heap := h, toks := tk }) :
    wpAny (model prog w) A (newList []) (fun acc s₃ => wpAny (model prog w) A (newFunctionEnv scope env.globals cl [] env.qual none .none (some env)) (fun cenv s₄ =>
      codeAny (model prog w) A (.compStart (.ListComp elt [⟨.Name x px, iter, [], 0⟩] scope pos) 0 (.ref I) acc { cenv with scope := relabel scope env }) (RR acc cenv.locals) s₄) E s₃) E s₂ := by
  refine wpAny_newObj_type (wpAny_newFunctionEnv hcell (by intro y hy; simp at hy) (fun h₁ hns₁ hsb₁ => ?_) hkind)
  dsimp only at hns₁ hsb₁ ⊢
  generalize hH2 : s₂.heap.push { cls := .type "list", dict := none, data := .seq ([] : List Value).toArray } = H2 at hns₁ hsb₁ ⊢
  have hC : H2.objs.size = s₂.heap.objs.size + 1 := by rw [← hH2, Heap.size_push]
  have hDC : s₂.heap.objs.size ≠ H2.objs.size := by rw [hC]; exact Nat.ne_of_lt (Nat.lt_succ_self _)
  have below : ∀ b, b < s₂.heap.objs.size → b ≠ H2.objs.size ∧ b ≠ s₂.heap.objs.size := fun b hb => ⟨by rw [hC]; exact Nat.ne_of_lt (Nat.lt_succ_of_lt hb), Nat.ne_of_lt hb⟩
  have hfl : ∀ b ∈ fp, b < s₂.heap.objs.size := fun b hb => by obtain ⟨o, e⟩ := hlive _ _ hst b hb; exact Heap.lt_size e
  have hDf : s₂.heap.objs.size ∉ fp := fun hm => Nat.lt_irrefl _ (hfl _ hm)
  have hCf : H2.objs.size ∉ fp := fun hm => by have := hfl _ hm; rw [hC] at this; exact Nat.lt_irrefl _ (Nat.lt_of_succ_lt this)
  have hDw : s₂.heap.objs.size ∉ wr := fun hm => hDf (W.sub _ hm)
  have hCw : H2.objs.size ∉ wr := fun hm => hCf (W.sub _ hm)
  have hLw : L ∉ wr := fun hm => hLf (W.sub _ hm)
  have old : ∀ b o, s₂.heap.get? b = some o → h₁.get? b = some o := fun b o e => hsb₁.extBut b o (below b (Heap.lt_size e)).1 (Heap.get?_push_of_some _ (hH2 ▸ Heap.get?_push_of_some _ e))
  have hacc : h₁.get? s₂.heap.objs.size = some (lst []) := hsb₁.extBut _ _ hDC (Heap.get?_push_of_some _ (hH2 ▸ Heap.get?_push_size _ rfl))
  have hst₁ : St 0 h₁ := W.frame _ _ _ hst fun b _ o e => old b o e
  have fresh : ∀ a, s₂.heap.objs.size ≤ a → s₂.heap.get? a = none := fun a ha => by
    cases e : s₂.heap.get? a with
    | none => rfl
    | some o' => exact absurd (Heap.lt_size e) (Nat.not_lt.mpr ha)
  have fresh₀ : ∀ a, s₂.heap.objs.size ≤ a → h₀.get? a = none := fun a ha => by
    cases e : h₀.get? a with
    | none => rfl
    | some o' => have := F.keep a o' e; rw [fresh a ha] at this; cases this
  have hD₀ : h₀.get? s₂.heap.objs.size = none := fresh₀ _ (Nat.le_refl _)
  have hC₀ : h₀.get? H2.objs.size = none := fresh₀ _ (by rw [hC]; exact Nat.le_succ _)
  have hLlt : L < s₂.heap.objs.size := F.ns.lt
  have hDL : s₂.heap.objs.size ≠ L := Ne.symm (below L hLlt).2
  have hCL : H2.objs.size ≠ L := Ne.symm (below L hLlt).1
  have oldw : ∀ b o, h₀.get? b = some o → b ∉ wr := fun b o e hb => by rw [hwr b hb] at e; cases e
  have loop : ∀ s₃ : Shared, s₃ = { s₂ with heap := h₁, toks := s₂.toks + ([] : List (Str × Value)).length } →
      codeAny (model prog w) A (.compLoop (.ListComp elt [⟨.Name x px, iter, [], 0⟩] scope pos) 0 (.ref I) (.ref s₂.heap.objs.size) (compEnvC scope cl H2.objs.size env))
        (RR (.ref s₂.heap.objs.size) H2.objs.size) s₃ := by
    rintro s₃ rfl
    refine codeAny_compLoop_tests
      (fun k s' => ∀ H : Prop, (∀ h' tk i ys m' led₁,
    s' = { s₂ with heap := h', toks := tk } → i ≤ n → k = n + 1 - i → ys.length = i → St i h' → Fr h₀ L h' m → h'.Ns H2.objs.size m' → News h₀ L h' ((s₂.heap.objs.size, lst ys) :: led₁) → (∀ p ∈ led₁, p.1 ∉ wr ∧ p.1 ≠ H2.objs.size ∧ p.1 ≠ s₂.heap.objs.size) → J i ys led₁ → H) → H) ?_ (n + 1)
      (fun _ k9 => k9 h₁ _ 0 [] _ led rfl (Nat.zero_le _) rfl rfl hst₁ (F.keeps old) hns₁ (fun p hp => ?_) (fun p hp => ⟨hnw p hp, below _ (Heap.lt_size (N p hp).1)⟩) h0)
    · intro k s' hI9
      refine hI9 _ fun h' tk i ys m' led₁ hs9 hi hk9 hyl hst' F' hn' N' off' hJ => ?_
      subst hs9 hk9
      have keepFr : ∀ h₂ : Heap, (∀ b o, b ∉ wr → h'.get? b = some o → h₂.get? b = some o) → Fr h₀ L h₂ m := fun h₂ hk => ⟨F'.ns.at' fun o e => hk L o hLw e, fun b o e => hk b o (oldw b o e) (F'.keep b o e), F'.above⟩
      have keepN : ∀ h₂ : Heap, (∀ b o, b ∉ wr → h'.get? b = some o → h₂.get? b = some o) → News h₀ L h₂ ((s₂.heap.objs.size, lst ys) :: led₁) := fun h₂ hk p hp => by
        refine ⟨hk _ _ ?_ (N' p hp).1, (N' p hp).2⟩
        rcases List.mem_cons.mp hp with rfl | hp
        · exact hDw
        · exact (off' p hp).1
      by_cases hlt : i < n
      · refine W.item i _ _ _ hlt hst' fun v h₂ tk₂ hPv hst₂ hk₂ => ?_
        refine wpAny_assign_Name (wpAny_storeName_local (lookup_relabel_local hx) (hn'.at' fun o e => hk₂ _ o hCw e) (fun h₃ hn₃ hs₃ => ?_) (by simp [compEnvC, relabel, hkind]))
        refine wpAny_tests_nil ?_
        simp only [if_true]
        have hst₃ : St (i + 1) h₃ := W.frame _ _ _ hst₂ fun b hb o e => hs₃.extBut b o (fun q => hCf (by have q' : b = H2.objs.size := q; rw [← q']; exact hb)) e
        obtain ⟨oC, heC, hoC⟩ := ns_obj hn₃
        have F₃ : Fr h₀ L h₃ m := (keepFr h₂ hk₂).change hs₃ hCL hC₀
        have N₂ := keepN h₂ hk₂
        have N₃ : News h₀ L h₃ ((s₂.heap.objs.size, lst ys) :: led₁) := fun p hp => by
          refine ⟨hs₃.extBut _ _ ?_ (N₂ p hp).1, (N₂ p hp).2⟩
          rcases List.mem_cons.mp hp with rfl | hp
          · exact hDC
          · exact (off' p hp).2.1
        have Nown : News h₀ L h₃ ((H2.objs.size, oC) :: (s₂.heap.objs.size, lst ys) :: ownOf h₀ fp h₃) := fun p hp => by
          rcases List.mem_cons.mp hp with rfl | hp
          · exact ⟨heC, hCL, hC₀⟩
          · rcases List.mem_cons.mp hp with rfl | hp
            · exact N₃ _ (List.mem_cons_self)
            · exact news_ownOf hLf p hp
        have NN : News h₀ L h₃ (((H2.objs.size, oC) :: (s₂.heap.objs.size, lst ys) :: ownOf h₀ fp h₃) ++ led₁) := fun p hp => (List.mem_append.mp hp).elim (Nown p) fun h => N₃ p (List.mem_cons_of_mem _ h)
        refine wpAny_mono (turn i v ys led₁ _ H2.objs.size oC _ h₃ _ _ hlt hPv hJ List.mem_cons_self (fun q hq => by
          rcases List.mem_cons.mp hq with rfl | hq
          · exact .inr fun p hp => by (show p.1 < H2.objs.size; rw [hC]; exact Nat.lt_succ_of_lt (Heap.lt_size (N p hp).1))
          · rcases List.mem_cons.mp hq with rfl | hq
            · exact .inr fun p hp => Heap.lt_size (N p hp).1
            · exact .inl (ownOf_sub q hq)) hoC (by simp) F₃ NN) (fun y s₄ h₄ => ?_) fun _ _ e => e
        refine hid0 fun H9 hH9 => ?_
        obtain ⟨h₄, tk₄, led₂, hs9, F₄, N₄, off₄, hJ₄⟩ := h₄
        refine hH9 ?_
        clear hH9 H9
        subst hs9
        have zC := (N₄ (H2.objs.size, oC) (List.mem_append_left _ List.mem_cons_self)).1
        have zD := (N₄ (s₂.heap.objs.size, lst ys) (List.mem_append_left _ (List.mem_cons_of_mem _ List.mem_cons_self))).1
        have zO : ∀ p ∈ ownOf h₀ fp h₃, h₄.get? p.1 = some p.2 := fun p hp => (N₄ p (List.mem_append_left _ (List.mem_cons_of_mem _ (List.mem_cons_of_mem _ hp)))).1
        have zf : ∀ b ∈ fp, ∀ o, h₃.get? b = some o → h₄.get? b = some o := fun b hb o e => by
          cases hn : h₀.get? b with
          | some o₀ =>
            have : o₀ = o := by have := F₃.keep b o₀ hn; rw [e] at this; exact (Option.some.inj this).symm
            exact this ▸ F₄.keep b o₀ hn
          | none => exact zO _ (mem_ownOf hb hn e)
        have hst₄ : St (i + 1) h₄ := W.frame _ _ _ hst₃ zf
        have N₄' : News h₀ L h₄ led₂ := fun p hp => N₄ p (List.mem_append_right _ hp)
        have off2 : ∀ p ∈ led₂, p.1 ∉ wr ∧ p.1 ≠ H2.objs.size ∧ p.1 ≠ s₂.heap.objs.size := fun p hp => by
          rcases off₄ p hp with ⟨q, hq, e⟩ | hall
          · rw [← e]; exact off' q hq
          · refine ⟨fun hw => ?_, Ne.symm (Nat.ne_of_lt (hall _ List.mem_cons_self)), Ne.symm (Nat.ne_of_lt (hall _ (List.mem_cons_of_mem _ List.mem_cons_self)))⟩
            obtain ⟨o, e⟩ := hlive _ _ hst₃ _ (W.sub _ hw)
            exact absurd (hall _ (List.mem_cons_of_mem _ (List.mem_cons_of_mem _ (mem_ownOf (W.sub _ hw) (hwr _ hw) e)))) (Nat.lt_irrefl _)
        refine append_at (hsz := by show ys.toArray.size ≤ sizeLine; rw [List.size_toArray, hyl]; exact Nat.le_trans hi hsz) zD fun h₅ hs₅ hD₅ => ?_
        refine ⟨n + 1 - (i + 1), sub_less hlt, fun _ k9 => k9 h₅ tk₄ (i + 1) (ys ++ [y]) _ led₂ rfl hlt rfl (by rw [List.length_append, List.length_singleton, hyl]) (W.frame _ _ _ hst₄ fun b hb o e => hs₅.extBut b o (fun q => hDf (q ▸ hb)) e) (F₄.change hs₅ hDL hD₀) ((hoC.ns zC).sameBut hs₅ (Ne.symm hDC)) (fun p hp => ?_) off2 hJ₄⟩
        rcases List.mem_cons.mp hp with rfl | hp
        · exact ⟨hD₅.trans (congrArg some (lst_snoc ys y)), hDL, hD₀⟩
        · exact ⟨hs₅.extBut _ _ (off2 p hp).2.2 (N₄' p hp).1, (N₄' p hp).2⟩
      · obtain rfl : i = n := Nat.le_antisymm hi (Nat.not_lt.mp hlt)
        refine W.done _ _ _ hst' fun h₂ tk₂ hk₂ => ?_
        exact hRR _ _ h₂ tk₂ _ ys led₁ (keepFr h₂ hk₂) (keepN h₂ hk₂) (fun p hp => (off' p hp).2.2) (fun p hp => Heap.lt_size (N p hp).1) (hn'.at' fun o e => hk₂ _ o hCw e) hC₀ hD₀ hCL hDL (Ne.symm hDC) (fun p hp => (off' p hp).2.1) hyl hJ
    · rcases List.mem_cons.mp hp with rfl | hp
      · exact ⟨hacc, hDL, hD₀⟩
      · exact ⟨old _ _ (N p hp).1, (N p hp).2⟩
  exact codeAny_compStart_list (loop _ rfl) (W.self 0 _ _ _ hst₁ (loop _ rfl))
theorem comp2_block {elt iter : Expr} {x x₂ : Str} {px px₂ tp : Pos} {kk : Nat} {scope : Scope} {cl : List (Str × Addr)} {pos : Pos} {s₂ : Shared} {I : Addr} {fp wr : List Addr} {n : Nat} {Pt : Nat → Array Value → Prop} {St : Nat → Heap → Prop} {Mid : Nat → Addr → Heap → Prop} {led : List (Addr × Obj)}
    {RR : Value → Addr → Result → Shared → Prop}
    (W : WalksU prog w A I fp wr n Pt St Mid) (hh : A.handled = none) (hpair : ∀ i vals, Pt i vals → ∃ a b, vals = #[a, b]) (hsz : n ≤ sizeLine)
    (hcell : ∀ y ∈ scope.names, y.2 ≠ .cell) (hkind : scope.kind = .function) (hx : scope.names.lookup x = some .local) (hx₂ : scope.names.lookup x₂ = some .local) (hxx : ¬ x = x₂) (hst : St 0 s₂.heap) (hlive : ∀ i h, St i h → ∀ b ∈ fp, ∃ o, h.get? b = some o)
    (F : Fr h₀ L s₂.heap m) (N : News h₀ L s₂.heap led) (hLf : L ∉ fp) (hwr : ∀ b ∈ wr, h₀.get? b = none) (hnw : ∀ p ∈ led, p.1 ∉ wr)
    (J : Nat → List Value → List (Addr × Obj) → Prop) (h0 : J 0 [] led)
    (turn : ∀ i v v₂ ys led₁ own C oC m₂ h tk (E' : Value → Shared → Prop), i < n → Pt i #[v, v₂] → J i ys led₁ → (C, oC) ∈ own → NsObj oC m₂ → m₂ x = some v → m₂ x₂ = some v₂ → Fr h₀ L h m → News h₀ L h (own ++ led₁) →
      wpAny (model prog w) A (eval elt (compEnvC scope cl C env)) (CompOut h₀ L m { s₂ with heap := h, toks := tk } own led₁ (fun y led₂ => J (i + 1) (ys ++ [y]) led₂)) E' { s₂ with heap := h, toks := tk })
    (hRR : ∀ D C h tk m' ys led₁, Fr h₀ L h m → News h₀ L h ((D, lst ys) :: led₁) → (∀ p ∈ led₁, p.1 ≠ D) → (∀ p ∈ led, p.1 < D) → h.Ns C m' → h₀.get? C = none → h₀.get? D = none → C ≠ L → D ≠ L → C ≠ D → (∀ p ∈ led₁, p.1 ≠ C) → ys.length = n → J n ys led₁ → RR (.ref D) C (.ok .next) { s₂ with heap := h, toks := tk }) :
    wpAny (model prog w) A (newList []) (fun acc s₃ => wpAny (model prog w) A (newFunctionEnv scope env.globals cl [] env.qual none .none (some env)) (fun cenv s₄ =>
      codeAny (model prog w) A (.compStart (.ListComp elt [⟨.Tuple [.Name x px, .Name x₂ px₂] kk tp, iter, [], 0⟩] scope pos) 0 (.ref I) acc { cenv with scope := relabel scope env }) (RR acc cenv.locals) s₄) E s₃) E s₂ := by
  refine wpAny_newObj_type (wpAny_newFunctionEnv hcell (by intro y hy; simp at hy) (fun h₁ hns₁ hsb₁ => ?_) hkind)
  dsimp only at hns₁ hsb₁ ⊢
  generalize hH2 : s₂.heap.push { cls := .type "list", dict := none, data := .seq ([] : List Value).toArray } = H2 at hns₁ hsb₁ ⊢
  have hC : H2.objs.size = s₂.heap.objs.size + 1 := by rw [← hH2, Heap.size_push]
  have hDC : s₂.heap.objs.size ≠ H2.objs.size := by rw [hC]; exact Nat.ne_of_lt (Nat.lt_succ_self _)
  have below : ∀ b, b < s₂.heap.objs.size → b ≠ H2.objs.size ∧ b ≠ s₂.heap.objs.size := fun b hb => ⟨by rw [hC]; exact Nat.ne_of_lt (Nat.lt_succ_of_lt hb), Nat.ne_of_lt hb⟩
  have hfl : ∀ b ∈ fp, b < s₂.heap.objs.size := fun b hb => by obtain ⟨o, e⟩ := hlive _ _ hst b hb; exact Heap.lt_size e
  have hDf : s₂.heap.objs.size ∉ fp := fun hm => Nat.lt_irrefl _ (hfl _ hm)
  have hCf : H2.objs.size ∉ fp := fun hm => by have := hfl _ hm; rw [hC] at this; exact Nat.lt_irrefl _ (Nat.lt_of_succ_lt this)
  have hDw : s₂.heap.objs.size ∉ wr := fun hm => hDf (W.sub _ hm)
  have hCw : H2.objs.size ∉ wr := fun hm => hCf (W.sub _ hm)
  have hLw : L ∉ wr := fun hm => hLf (W.sub _ hm)
  have old : ∀ b o, s₂.heap.get? b = some o → h₁.get? b = some o := fun b o e => hsb₁.extBut b o (below b (Heap.lt_size e)).1 (Heap.get?_push_of_some _ (hH2 ▸ Heap.get?_push_of_some _ e))
  have hacc : h₁.get? s₂.heap.objs.size = some (lst []) := hsb₁.extBut _ _ hDC (Heap.get?_push_of_some _ (hH2 ▸ Heap.get?_push_size _ rfl))
  have hst₁ : St 0 h₁ := W.frame _ _ _ hst fun b _ o e => old b o e
  have fresh : ∀ a, s₂.heap.objs.size ≤ a → s₂.heap.get? a = none := fun a ha => by
    cases e : s₂.heap.get? a with
    | none => rfl
    | some o' => exact absurd (Heap.lt_size e) (Nat.not_lt.mpr ha)
  have fresh₀ : ∀ a, s₂.heap.objs.size ≤ a → h₀.get? a = none := fun a ha => by
    cases e : h₀.get? a with
    | none => rfl
    | some o' => have := F.keep a o' e; rw [fresh a ha] at this; cases this
  have hD₀ : h₀.get? s₂.heap.objs.size = none := fresh₀ _ (Nat.le_refl _)
  have hC₀ : h₀.get? H2.objs.size = none := fresh₀ _ (by rw [hC]; exact Nat.le_succ _)
  have hLlt : L < s₂.heap.objs.size := F.ns.lt
  have hDL : s₂.heap.objs.size ≠ L := Ne.symm (below L hLlt).2
  have hCL : H2.objs.size ≠ L := Ne.symm (below L hLlt).1
  have oldw : ∀ b o, h₀.get? b = some o → b ∉ wr := fun b o e hb => by rw [hwr b hb] at e; cases e
  have loop : ∀ s₃ : Shared, s₃ = { s₂ with heap := h₁, toks := s₂.toks + ([] : List (Str × Value)).length } →
      codeAny (model prog w) A (.compLoop (.ListComp elt [⟨.Tuple [.Name x px, .Name x₂ px₂] kk tp, iter, [], 0⟩] scope pos) 0 (.ref I) (.ref s₂.heap.objs.size) (compEnvC scope cl H2.objs.size env))
        (RR (.ref s₂.heap.objs.size) H2.objs.size) s₃ := by
    rintro s₃ rfl
    refine PySem.W.kcp_loop
      (fun k s' => ∀ H : Prop, (∀ h' tk i ys m' led₁,
    s' = { s₂ with heap := h', toks := tk } → i ≤ n → k = n + 1 - i → ys.length = i → St i h' → Fr h₀ L h' m → h'.Ns H2.objs.size m' → News h₀ L h' ((s₂.heap.objs.size, lst ys) :: led₁) → (∀ p ∈ led₁, p.1 ∉ wr ∧ p.1 ≠ H2.objs.size ∧ p.1 ≠ s₂.heap.objs.size) → J i ys led₁ → H) → H) ?_ (n + 1)
      (fun _ k9 => k9 h₁ _ 0 [] _ led rfl (Nat.zero_le _) rfl rfl hst₁ (F.keeps old) hns₁ (fun p hp => ?_) (fun p hp => ⟨hnw p hp, below _ (Heap.lt_size (N p hp).1)⟩) h0)
    · intro k s' hI9
      refine hI9 _ fun h' tk i ys m' led₁ hs9 hi hk9 hyl hst' F' hn' N' off' hJ => ?_
      subst hs9 hk9
      have keepFr : ∀ h₂ : Heap, (∀ b o, b ∉ wr → h'.get? b = some o → h₂.get? b = some o) → Fr h₀ L h₂ m := fun h₂ hk => ⟨F'.ns.at' fun o e => hk L o hLw e, fun b o e => hk b o (oldw b o e) (F'.keep b o e), F'.above⟩
      have keepN : ∀ h₂ : Heap, (∀ b o, b ∉ wr → h'.get? b = some o → h₂.get? b = some o) → News h₀ L h₂ ((s₂.heap.objs.size, lst ys) :: led₁) := fun h₂ hk p hp => by
        refine ⟨hk _ _ ?_ (N' p hp).1, (N' p hp).2⟩
        rcases List.mem_cons.mp hp with rfl | hp
        · exact hDw
        · exact (off' p hp).1
      by_cases hlt : i < n
      · refine W.item i _ _ _ hlt hst' fun T vals h₁' tk₁ hPv hT hMd hk₁ => ?_
        refine W.go _ _ _ i T _ _ _ hMd fun h₂ hst₂ hk₁' => ?_
        obtain ⟨v, v₂, rfl⟩ := hpair i vals hPv
        have hTw : T ∉ wr := W.apart _ _ _ hMd
        have hk₂ : ∀ b o, b ∉ wr → h'.get? b = some o → h₂.get? b = some o := fun b o hb e => hk₁' b o hb (hk₁ b o hb e)
        have hT₂ : h₂.IsTuple T #[v, v₂] := by
          obtain ⟨oT, eT, rT⟩ := hT
          exact ⟨oT, hk₁' _ _ hTw eT, rT⟩
        refine PySem.W.kcp_assign (env := compEnvC scope cl H2.objs.size env) hh hT₂ (lookup_relabel_local hx) (lookup_relabel_local hx₂) (by simp [compEnvC, relabel, hkind]) (hn'.at' fun o e => hk₂ _ o hCw e) fun h₃ tk₃ hn₃ hs₃ => ?_
        replace hn₃ : h₃.Ns H2.objs.size (fun z => if z = x₂ then some v₂ else if z = x then some v else m' z) := hn₃
        have up₃ : ∀ c o, c ≠ H2.objs.size → h₂.get? c = some o → h₃.get? c = some o := hs₃
        have hst₃ : St (i + 1) h₃ := W.frame _ _ _ hst₂ fun b hb o e => up₃ b o (fun q => hCf (by rw [← q]; exact hb)) e
        obtain ⟨oC, heC, hoC⟩ := ns_obj hn₃
        have F₃ : Fr h₀ L h₃ m := by
          have F₂ := keepFr h₂ hk₂
          exact ⟨F₂.ns.at' fun o e => up₃ _ o (Ne.symm hCL) e, fun b o e => up₃ b o (fun q => by rw [q, hC₀] at e; cases e) (F₂.keep b o e), F₂.above⟩
        have N₂ := keepN h₂ hk₂
        have N₃ : News h₀ L h₃ ((s₂.heap.objs.size, lst ys) :: led₁) := fun p hp => by
          refine ⟨up₃ _ _ ?_ (N₂ p hp).1, (N₂ p hp).2⟩
          rcases List.mem_cons.mp hp with rfl | hp
          · exact hDC
          · exact (off' p hp).2.1
        have Nown : News h₀ L h₃ ((H2.objs.size, oC) :: (s₂.heap.objs.size, lst ys) :: ownOf h₀ fp h₃) := fun p hp => by
          rcases List.mem_cons.mp hp with rfl | hp
          · exact ⟨heC, hCL, hC₀⟩
          · rcases List.mem_cons.mp hp with rfl | hp
            · exact N₃ _ (List.mem_cons_self)
            · exact news_ownOf hLf p hp
        have NN : News h₀ L h₃ (((H2.objs.size, oC) :: (s₂.heap.objs.size, lst ys) :: ownOf h₀ fp h₃) ++ led₁) := fun p hp => (List.mem_append.mp hp).elim (Nown p) fun h => N₃ p (List.mem_cons_of_mem _ h)
        refine wpAny_mono (turn i v v₂ ys led₁ _ H2.objs.size oC _ h₃ _ _ hlt hPv hJ List.mem_cons_self hoC (by simp [hxx]) (by simp) F₃ NN) (fun y s₄ h₄ => ?_) fun _ _ e => e
        refine hid0 fun H9 hH9 => ?_
        obtain ⟨h₄, tk₄, led₂, hs9, F₄, N₄, off₄, hJ₄⟩ := h₄
        refine hH9 ?_
        clear hH9 H9
        subst hs9
        have zC := (N₄ (H2.objs.size, oC) (List.mem_append_left _ List.mem_cons_self)).1
        have zD := (N₄ (s₂.heap.objs.size, lst ys) (List.mem_append_left _ (List.mem_cons_of_mem _ List.mem_cons_self))).1
        have zO : ∀ p ∈ ownOf h₀ fp h₃, h₄.get? p.1 = some p.2 := fun p hp => (N₄ p (List.mem_append_left _ (List.mem_cons_of_mem _ (List.mem_cons_of_mem _ hp)))).1
        have zf : ∀ b ∈ fp, ∀ o, h₃.get? b = some o → h₄.get? b = some o := fun b hb o e => by
          cases hn : h₀.get? b with
          | some o₀ =>
            have : o₀ = o := by have := F₃.keep b o₀ hn; rw [e] at this; exact (Option.some.inj this).symm
            exact this ▸ F₄.keep b o₀ hn
          | none => exact zO _ (mem_ownOf hb hn e)
        have hst₄ : St (i + 1) h₄ := W.frame _ _ _ hst₃ zf
        have N₄' : News h₀ L h₄ led₂ := fun p hp => N₄ p (List.mem_append_right _ hp)
        have off2 : ∀ p ∈ led₂, p.1 ∉ wr ∧ p.1 ≠ H2.objs.size ∧ p.1 ≠ s₂.heap.objs.size := fun p hp => by
          rcases off₄ p hp with ⟨q, hq, e⟩ | hall
          · rw [← e]; exact off' q hq
          · refine ⟨fun hw => ?_, Ne.symm (Nat.ne_of_lt (hall _ List.mem_cons_self)), Ne.symm (Nat.ne_of_lt (hall _ (List.mem_cons_of_mem _ List.mem_cons_self)))⟩
            obtain ⟨o, e⟩ := hlive _ _ hst₃ _ (W.sub _ hw)
            exact absurd (hall _ (List.mem_cons_of_mem _ (List.mem_cons_of_mem _ (mem_ownOf (W.sub _ hw) (hwr _ hw) e)))) (Nat.lt_irrefl _)
        refine append_at (hsz := by show ys.toArray.size ≤ sizeLine; rw [List.size_toArray, hyl]; exact Nat.le_trans hi hsz) zD fun h₅ hs₅ hD₅ => ?_
        refine ⟨n + 1 - (i + 1), sub_less hlt, fun _ k9 => k9 h₅ tk₄ (i + 1) (ys ++ [y]) _ led₂ rfl hlt rfl (by rw [List.length_append, List.length_singleton, hyl]) (W.frame _ _ _ hst₄ fun b hb o e => hs₅.extBut b o (fun q => hDf (q ▸ hb)) e) (F₄.change hs₅ hDL hD₀) ((hoC.ns zC).sameBut hs₅ (Ne.symm hDC)) (fun p hp => ?_) off2 hJ₄⟩
        rcases List.mem_cons.mp hp with rfl | hp
        · exact ⟨hD₅.trans (congrArg some (lst_snoc ys y)), hDL, hD₀⟩
        · exact ⟨hs₅.extBut _ _ (off2 p hp).2.2 (N₄' p hp).1, (N₄' p hp).2⟩
      · obtain rfl : i = n := Nat.le_antisymm hi (Nat.not_lt.mp hlt)
        refine W.done _ _ _ hst' fun h₂ tk₂ hk₂ => ?_
        exact hRR _ _ h₂ tk₂ _ ys led₁ (keepFr h₂ hk₂) (keepN h₂ hk₂) (fun p hp => (off' p hp).2.2) (fun p hp => Heap.lt_size (N p hp).1) (hn'.at' fun o e => hk₂ _ o hCw e) hC₀ hD₀ hCL hDL (Ne.symm hDC) (fun p hp => (off' p hp).2.1) hyl hJ
    · rcases List.mem_cons.mp hp with rfl | hp
      · exact ⟨hacc, hDL, hD₀⟩
      · exact ⟨old _ _ (N p hp).1, (N p hp).2⟩
  exact codeAny_compStart_list (loop _ rfl) (W.self 0 _ _ _ hst₁ (loop _ rfl))

end
/-- what a comprehension with one name wants of its iterator -/
def Cmp1 (prog : Program) (w : World) (A : Around) (h₀ : Heap) (L : Addr) (m : Str → Option Value) (env : Env) (elt : Expr) (x : Str) (scope : Scope) (cl : List (Str × Addr)) (Fin : Value → Heap → Nat → List (Addr × Obj) → Prop) (it : Value) (s₂ : Shared) : Prop :=
  ∀ H : Prop, (∀ (I : Addr) (fp wr : List Addr) (n : Nat) (P : Nat → Value → Prop) (St : Nat → Heap → Prop) (led : List (Addr × Obj)) (J : Nat → List Value → List (Addr × Obj) → Prop),
    it = .ref I → Walks prog w A I fp wr n P St → n ≤ sizeLine → St 0 s₂.heap → (∀ i h, St i h → ∀ b ∈ fp, ∃ o, h.get? b = some o) → Fr h₀ L s₂.heap m → News h₀ L s₂.heap led → L ∉ fp → (∀ b ∈ wr, h₀.get? b = none) → (∀ p ∈ led, p.1 ∉ wr) → J 0 [] led → (∀ i v ys led₁ own C oC m₂ h tk (E' : Value → Shared → Prop), i < n → P i v → J i ys led₁ → (C, oC) ∈ own → (∀ q ∈ own, q.1 ∈ fp ∨ ∀ p ∈ led, p.1 < q.1) → NsObj oC m₂ → m₂ x = some v → Fr h₀ L h m → News h₀ L h (own ++ led₁) →
      wpAny (model prog w) A (eval elt (compEnvC scope cl C env)) (CompOut h₀ L m { s₂ with heap := h, toks := tk } own led₁ (fun y led₂ => J (i + 1) (ys ++ [y]) led₂)) E' { s₂ with heap := h, toks := tk }) → (∀ D h tk ys led₁, News h₀ L h ((D, lst ys) :: led₁) → (∀ p ∈ led₁, p.1 ≠ D) → (∀ p ∈ led, p.1 < D) → ys.length = n → J n ys led₁ → Fin (.ref D) h tk led₁) → H) → H
def Cmp2 (prog : Program) (w : World) (A : Around) (h₀ : Heap) (L : Addr) (m : Str → Option Value) (env : Env) (elt : Expr) (x x₂ : Str) (scope : Scope) (cl : List (Str × Addr)) (Fin : Value → Heap → Nat → List (Addr × Obj) → Prop) (it : Value) (s₂ : Shared) : Prop :=
  ∀ H : Prop, (∀ (I : Addr) (fp wr : List Addr) (n : Nat) (Pt : Nat → Array Value → Prop) (St : Nat → Heap → Prop) (Mid : Nat → Addr → Heap → Prop) (led : List (Addr × Obj)) (J : Nat → List Value → List (Addr × Obj) → Prop),
    it = .ref I → A.handled = none → WalksU prog w A I fp wr n Pt St Mid → (∀ i vals, Pt i vals → ∃ a b, vals = #[a, b]) → n ≤ sizeLine → St 0 s₂.heap → (∀ i h, St i h → ∀ b ∈ fp, ∃ o, h.get? b = some o) → Fr h₀ L s₂.heap m → News h₀ L s₂.heap led → L ∉ fp → (∀ b ∈ wr, h₀.get? b = none) → (∀ p ∈ led, p.1 ∉ wr) → J 0 [] led → (∀ i v v₂ ys led₁ own C oC m₂ h tk (E' : Value → Shared → Prop), i < n → Pt i #[v, v₂] → J i ys led₁ → (C, oC) ∈ own → NsObj oC m₂ → m₂ x = some v → m₂ x₂ = some v₂ → Fr h₀ L h m → News h₀ L h (own ++ led₁) →
      wpAny (model prog w) A (eval elt (compEnvC scope cl C env)) (CompOut h₀ L m { s₂ with heap := h, toks := tk } own led₁ (fun y led₂ => J (i + 1) (ys ++ [y]) led₂)) E' { s₂ with heap := h, toks := tk }) → (∀ D h tk ys led₁, News h₀ L h ((D, lst ys) :: led₁) → (∀ p ∈ led₁, p.1 ≠ D) → (∀ p ∈ led, p.1 < D) → ys.length = n → J n ys led₁ → Fin (.ref D) h tk led₁) → H) → H
/-- what is wanted behind a comprehension that is evaluated -/
def FinOfE (h₀ : Heap) (L : Addr) (m : Str → Option Value) (s : Shared) (Q : Value → Shared → Prop) (D : Value) (h : Heap) (tk : Nat) (led₁ : List (Addr × Obj)) : Prop :=
  ∃ a o, D = .ref a ∧ h.get? a = some o ∧ ∀ h', Fr h₀ L h' m → News h₀ L h' ((a, o) :: led₁) → Q D { s with heap := h', toks := tk }
def FinOfA (h₀ : Heap) (L : Addr) (m : Str → Option Value) (y : Str) (s : Shared) (Q : Flow → Shared → Prop) (D : Value) (h : Heap) (_tk : Nat) (led₁ : List (Addr × Obj)) : Prop :=
  ∃ a o, D = .ref a ∧ h.get? a = some o ∧ ∀ h' tk', Fr h₀ L h' (fun z => if z = y then some D else m z) → News h₀ L h' ((a, o) :: led₁) → Q .next { s with heap := h', toks := tk' }
def IterE1 (prog : Program) (w : World) (A : Around) (E : Value → Shared → Prop) (h₀ : Heap) (L : Addr) (m : Str → Option Value) (env : Env) (elt : Expr) (x : Str) (scope : Scope) (cl : List (Str × Addr)) (Q : Value → Shared → Prop) (xv : Value) (s₁ : Shared) : Prop :=
  wpAny (model prog w) A (pyIter xv) (fun it s₂ => Cmp1 prog w A h₀ L m env elt x scope cl (FinOfE h₀ L m s₂ Q) it s₂) E s₁
def IterA1 (prog : Program) (w : World) (A : Around) (E : Value → Shared → Prop) (h₀ : Heap) (L : Addr) (m : Str → Option Value) (env : Env) (elt : Expr) (x : Str) (scope : Scope) (cl : List (Str × Addr)) (y : Str) (Q : Flow → Shared → Prop) (xv : Value) (s₁ : Shared) : Prop :=
  wpAny (model prog w) A (pyIter xv) (fun it s₂ => Cmp1 prog w A h₀ L m env elt x scope cl (FinOfA h₀ L m y s₂ Q) it s₂) E s₁
def IterE2 (prog : Program) (w : World) (A : Around) (E : Value → Shared → Prop) (h₀ : Heap) (L : Addr) (m : Str → Option Value) (env : Env) (elt : Expr) (x x₂ : Str) (scope : Scope) (cl : List (Str × Addr)) (Q : Value → Shared → Prop) (xv : Value) (s₁ : Shared) : Prop :=
  wpAny (model prog w) A (pyIter xv) (fun it s₂ => Cmp2 prog w A h₀ L m env elt x x₂ scope cl (FinOfE h₀ L m s₂ Q) it s₂) E s₁
section
variable {prog : Program} {w : World} {A : Around} {E : Value → Shared → Prop} {s : Shared} {h₀ : Heap} {L : Addr} {m : Str → Option Value} {env : Env}
theorem ListComp1E (_F₀ : Fr h₀ L s.heap m) {elt iter : Expr} {x : Str} {px : Pos} {scope : Scope} {cl : List (Str × Addr)} {pos : Pos} {Q : Value → Shared → Prop}
    (hclos : closureFor scope env = pure cl) (hcell : ∀ y ∈ scope.names, y.2 ≠ .cell) (hkind : scope.kind = .function)
    (hnames : ∀ y ∈ scope.names, y.2 = .local → scope.names.lookup y.1 = some .local) (hx : scope.names.lookup x = some .local)
    (h : wpAny (model prog w) A (eval iter env) (IterE1 prog w A E h₀ L m env elt x scope cl Q) E s)
    (hs : ∀ x, foldedSetIterable iter env x = pure x) :
    wpAny (model prog w) A (eval (.ListComp elt [⟨.Name x px, iter, [], 0⟩] scope pos) env) Q E s := by
  rw [eval_ListComp]
  refine wpAny_comprehension_free (use := none) rfl hs hclos hkind hnames (wpAny_mono h (fun xv s₁ h₁ => ?_) fun _ _ e => e)
  refine wpAny_mono h₁ (fun it s₂ h₂ => ?_) fun _ _ e => e
  refine h₂ _ fun I fp wr n P St led J hit W hsz hst hlive F N hLf hwr hnw h0 turn fin => ?_
  subst hit
  refine comp1_block W hsz hcell hkind hx hst hlive F N hLf hwr hnw J h0 turn ?_
  intro D C h tk m' ys led₁ F' N' hD hlt hn hC₀ hD₀ hCL hDL hCD offC hlen hJ
  obtain ⟨a, o, ea, ho, hQ⟩ := fin D h tk ys led₁ N' hD hlt hlen hJ
  cases ea
  refine ⟨m', hn, fun h'' hs'' => hQ h'' (F'.change hs'' hCL hC₀) fun p hp => ?_⟩
  have z : h.get? p.1 = some p.2 ∧ p.1 ≠ L ∧ h₀.get? p.1 = none := by
    rcases List.mem_cons.mp hp with rfl | hp
    · exact ⟨ho, (N' _ List.mem_cons_self).2⟩
    · exact N' p (List.mem_cons_of_mem _ hp)
  refine ⟨hs''.extBut _ _ ?_ z.1, z.2⟩
  rcases List.mem_cons.mp hp with rfl | hp
  · exact Ne.symm hCD
  · exact offC p hp
theorem ListComp1A (_F₀ : Fr h₀ L s.heap m) {elt iter : Expr} {x : Str} {px : Pos} {y : Str} {py : Pos} {scope : Scope} {cl : List (Str × Addr)} {pos spos : Pos} {Q : Flow → Shared → Prop} (hLe : env.locals = L)
    (hsw : swapsWith (.ListComp elt [⟨.Name x px, iter, [], 0⟩] scope pos) (some (.Name y py)) spos.line env = pure true)
    (hclos : closureFor scope env = pure cl) (hcell : ∀ z ∈ scope.names, z.2 ≠ .cell) (hkind : scope.kind = .function)
    (hnames : ∀ z ∈ scope.names, z.2 = .local → scope.names.lookup z.1 = some .local) (hx : scope.names.lookup x = some .local)
    (hy : env.kindOf y = some .local) (hp : (env.scope.kind == .class || (env.scope.kind == .module && env.locals != env.globals)) = false)
    (h : wpAny (model prog w) A (eval iter env) (IterA1 prog w A E h₀ L m env elt x scope cl y Q) E s)
    (hs : ∀ x, foldedSetIterable iter env x = pure x) :
    wpAny (model prog w) A (exec (.Assign [.Name y py] (.ListComp elt [⟨.Name x px, iter, [], 0⟩] scope pos) spos) env) Q E s := by
  subst hLe
  rw [exec_Assign_Name_used _ _ _ _ hsw]
  refine wpAny_bind (wpAny_standAt (wpAny_bind ?_))
  show wpAny _ A (do let _ ← comprehension (.ListComp elt [⟨.Name x px, iter, [], 0⟩] scope pos) scope env _ (newList []) false (eval iter env) (some (assign (.Name y py) env))) _ _ s
  refine wpAny_bind (wpAny_mono (wpAny_comprehension_free (use := some (assign (.Name y py) env)) (Q := fun _ s' => Q .next s') rfl hs hclos hkind hnames
    (wpAny_mono h (fun xv s₁ h₁ => ?_) fun _ _ e => e)) (fun _ s' hq => wpAny_pure (wpAny_pure hq)) fun _ _ e => e)
  refine wpAny_mono h₁ (fun it s₂ h₂ => ?_) fun _ _ e => e
  refine h₂ _ fun I fp wr n P St led J hit W hsz hst hlive F N hLf hwr hnw h0 turn fin => ?_
  subst hit
  refine comp1_block W hsz hcell hkind hx hst hlive F N hLf hwr hnw J h0 turn ?_
  intro D C h tk m' ys led₁ F' N' hD hlt hn hC₀ hD₀ hCL hDL hCD offC hlen hJ
  obtain ⟨a, o, ea, ho, hQ⟩ := fin D h tk ys led₁ N' hD hlt hlen hJ
  cases ea
  show wpAny _ A (assign (.Name y py) env (.ref D)) _ _ _
  refine wpAny_assign_Name (wpAny_storeName_local hy F'.ns (fun h₂ hn₂ hs₂ => ?_) hp)
  have hL₀ : h₀.get? env.locals = none := Heap.get?_none_of_le F'.above
  have F₂ : Fr h₀ env.locals h₂ (fun z => if z = y then some (.ref D) else m z) := ⟨hn₂, fun b o e => hs₂.extBut b o (fun q => by rw [q, hL₀] at e; cases e) (F'.keep b o e), F'.above⟩
  refine ⟨m', hn.sameBut hs₂ hCL, fun h'' hs'' => hQ h'' _ (F₂.change hs'' hCL hC₀) fun p hp => ?_⟩
  have z : h.get? p.1 = some p.2 ∧ p.1 ≠ env.locals ∧ h₀.get? p.1 = none := by
    rcases List.mem_cons.mp hp with rfl | hp
    · exact ⟨ho, (N' _ List.mem_cons_self).2⟩
    · exact N' p (List.mem_cons_of_mem _ hp)
  have z₂ : h₂.get? p.1 = some p.2 := hs₂.extBut _ _ z.2.1 z.1
  refine ⟨hs''.extBut _ _ ?_ z₂, z.2⟩
  rcases List.mem_cons.mp hp with rfl | hp
  · exact Ne.symm hCD
  · exact offC p hp
theorem ListComp2E (_F₀ : Fr h₀ L s.heap m) {elt iter : Expr} {x x₂ : Str} {px px₂ tp : Pos} {kk : Nat} {scope : Scope} {cl : List (Str × Addr)} {pos : Pos} {Q : Value → Shared → Prop}
    (hclos : closureFor scope env = pure cl) (hcell : ∀ y ∈ scope.names, y.2 ≠ .cell) (hkind : scope.kind = .function)
    (hnames : ∀ y ∈ scope.names, y.2 = .local → scope.names.lookup y.1 = some .local) (hx : scope.names.lookup x = some .local) (hx₂ : scope.names.lookup x₂ = some .local) (hxx : ¬ x = x₂)
    (h : wpAny (model prog w) A (eval iter env) (IterE2 prog w A E h₀ L m env elt x x₂ scope cl Q) E s)
    (hs : ∀ x, foldedSetIterable iter env x = pure x) :
    wpAny (model prog w) A (eval (.ListComp elt [⟨.Tuple [.Name x px, .Name x₂ px₂] kk tp, iter, [], 0⟩] scope pos) env) Q E s := by
  rw [eval_ListComp]
  refine wpAny_comprehension_free (use := none) rfl hs hclos hkind hnames (wpAny_mono h (fun xv s₁ h₁ => ?_) fun _ _ e => e)
  refine wpAny_mono h₁ (fun it s₂ h₂ => ?_) fun _ _ e => e
  refine h₂ _ fun I fp wr n Pt St Mid led J hit hh W hpair hsz hst hlive F N hLf hwr hnw h0 turn fin => ?_
  subst hit
  refine comp2_block W hh hpair hsz hcell hkind hx hx₂ hxx hst hlive F N hLf hwr hnw J h0 turn ?_
  intro D C h tk m' ys led₁ F' N' hD hlt hn hC₀ hD₀ hCL hDL hCD offC hlen hJ
  obtain ⟨a, o, ea, ho, hQ⟩ := fin D h tk ys led₁ N' hD hlt hlen hJ
  cases ea
  refine ⟨m', hn, fun h'' hs'' => hQ h'' (F'.change hs'' hCL hC₀) fun p hp => ?_⟩
  have z : h.get? p.1 = some p.2 ∧ p.1 ≠ L ∧ h₀.get? p.1 = none := by
    rcases List.mem_cons.mp hp with rfl | hp
    · exact ⟨ho, (N' _ List.mem_cons_self).2⟩
    · exact N' p (List.mem_cons_of_mem _ hp)
  refine ⟨hs''.extBut _ _ ?_ z.1, z.2⟩
  rcases List.mem_cons.mp hp with rfl | hp
  · exact Ne.symm hCD
  · exact offC p hp
end
end Mine
-- Iter
set_option maxHeartbeats 4000000
set_option maxRecDepth 100000
namespace Mine
open PySem PySem.Spec PySem.Calls PyProof.Rows PyProof.Rows.LCg
theorem all7 {P : Addr → Prop} {a b c d e f g : Addr} (h1 : P a) (h2 : P b) (h3 : P c) (h4 : P d) (h5 : P e) (h6 : P f) (h7 : P g) : ∀ x ∈ [a, b, c, d, e, f, g], P x :=
  List.forall_mem_cons.mpr ⟨h1, List.forall_mem_cons.mpr ⟨h2, List.forall_mem_cons.mpr ⟨h3, List.forall_mem_cons.mpr ⟨h4, List.forall_mem_cons.mpr ⟨h5, List.forall_mem_cons.mpr ⟨h6, List.forall_mem_cons.mpr ⟨h7, List.forall_mem_nil _⟩⟩⟩⟩⟩⟩⟩
theorem all4 {P : Addr → Prop} {a b c d : Addr} (h1 : P a) (h2 : P b) (h3 : P c) (h4 : P d) : ∀ x ∈ [a, b, c, d], P x :=
  List.forall_mem_cons.mpr ⟨h1, List.forall_mem_cons.mpr ⟨h2, List.forall_mem_cons.mpr ⟨h3, List.forall_mem_cons.mpr ⟨h4, List.forall_mem_nil _⟩⟩⟩⟩
theorem ne_add {k i j : Nat} (h : i ≠ j) : k + i ≠ k + j := fun e => h (Nat.add_left_cancel e)
theorem ne_lo {k j l : Nat} (h : l < k) : l ≠ k + j := Nat.ne_of_lt (Nat.lt_of_lt_of_le h (Nat.le_add_right _ _))
theorem zipApart_of (k l1 l2 : Nat) (h1 : l1 < k) (h2 : l2 < k) : ZipApart (k + 4) (k + 2) (k + 3) k (k + 1) l1 l2 := by
  constructor <;> first
    | exact ne_add (by decide)
    | exact ne_add (k := k) (i := 0) (by decide)
    | exact ne_add (k := k) (j := 0) (by decide)
    | exact ne_lo h1
    | exact ne_lo (j := 0) h1
    | exact Ne.symm (ne_lo h1)
    | exact Ne.symm (ne_lo (j := 0) h1)
    | exact ne_lo h2
    | exact ne_lo (j := 0) h2
    | exact Ne.symm (ne_lo h2)
    | exact Ne.symm (ne_lo (j := 0) h2)
section
variable {prog : Program} {w : World} {A : Around} {E : Value → Shared → Prop} {s : Shared} {h₀ : Heap} {L : Addr} {m : Str → Option Value} {env : Env} {led : List (Addr × Obj)}
theorem IterE1.list {elt : Expr} {x : Str} {scope : Scope} {cl : List (Str × Addr)} {Q : Value → Shared → Prop} {ax : Addr} {its : Array Value} {k : Nat} (hh : A.handled = none) (F : Fr h₀ L s.heap m) (N : News h₀ L s.heap led) (hm : (ax, ({ cls := .type "list", data := .seq its k } : Obj)) ∈ led) (hsz : its.size ≤ sizeLine)
    (J : Nat → List Value → List (Addr × Obj) → Prop) (h0 : J 0 [] led)
    (turn : ∀ i v ys led₁ own C oC m₂ h tk (E' : Value → Shared → Prop), i < its.size → its[i]? = some v → J i ys led₁ → (C, oC) ∈ own → NsObj oC m₂ → m₂ x = some v → Fr h₀ L h m → News h₀ L h (own ++ led₁) →
      wpAny (model prog w) A (eval elt (compEnvC scope cl C env)) (CompOut h₀ L m { s with heap := h, toks := tk } own led₁ (fun y led₂ => J (i + 1) (ys ++ [y]) led₂)) E' { s with heap := h, toks := tk })
    (fin : ∀ D h tk ys led₁, Fr h₀ L h m → News h₀ L h ((D, lst ys) :: led₁) → (∀ p ∈ led₁, p.1 ≠ D) → (∀ p ∈ led, p.1 < D) → ys.length = its.size → J its.size ys led₁ → Q (.ref D) { s with heap := h, toks := tk }) :
    IterE1 prog w A E h₀ L m env elt x scope cl Q (.ref ax) s := by
  have hl : s.heap.IsList ax its := ⟨_, (N _ hm).1, rfl, _, rfl⟩
  have hne : ax ≠ s.heap.objs.size := Nat.ne_of_lt (Heap.lt_size (N _ hm).1)
  refine wpAny_pyIter_list hl ?_
  refine fun _ k9 => k9 s.heap.objs.size _ _ its.size _ _ led J rfl (Walks.list hh s.heap.objs.size ax hne its) hsz ⟨⟨_, Heap.get?_push_size _ rfl, rfl, rfl⟩, hl.push _⟩ ?_ (F.push _) (fun p hp => ⟨Heap.get?_push_of_some _ (N p hp).1, (N p hp).2⟩) ?_ ?_ ?_ h0 ?_ ?_
  · rintro i h ⟨⟨o, e, _⟩, o', e', _⟩ b hb
    rcases List.mem_cons.mp hb with rfl | hb
    · exact ⟨o, e⟩
    · rw [List.mem_singleton.mp hb]; exact ⟨o', e'⟩
  · intro hb
    rcases List.mem_cons.mp hb with e | hb
    · exact absurd F.ns.lt (e ▸ Nat.lt_irrefl _)
    · exact (N _ hm).2.1 (List.mem_singleton.mp hb).symm
  · intro b hb
    rw [List.mem_singleton.mp hb]
    exact next_is_new F
  · intro p hp hI
    exact absurd (Heap.lt_size (N p hp).1) ((List.mem_singleton.mp hI) ▸ Nat.lt_irrefl _)
  · exact fun i v ys led₁ own C oC m₂ h tk E' a b c d _ e => turn i v ys led₁ own C oC m₂ h tk E' a b c d e
  · intro D h tk ys led₁ N' hD hlt hlen hJ
    exact ⟨D, _, rfl, (N' _ List.mem_cons_self).1, fun h' F' N'' => fin D h' _ ys led₁ F' N'' hD hlt hlen hJ⟩
theorem IterA1.list {elt : Expr} {x : Str} {scope : Scope} {cl : List (Str × Addr)} {y : Str} {Q : Flow → Shared → Prop} {ax : Addr} {its : Array Value} {k : Nat} (hh : A.handled = none) (F : Fr h₀ L s.heap m) (N : News h₀ L s.heap led) (hm : (ax, ({ cls := .type "list", data := .seq its k } : Obj)) ∈ led) (hsz : its.size ≤ sizeLine)
    (J : Nat → List Value → List (Addr × Obj) → Prop) (h0 : J 0 [] led)
    (turn : ∀ i v ys led₁ own C oC m₂ h tk (E' : Value → Shared → Prop), i < its.size → its[i]? = some v → J i ys led₁ → (C, oC) ∈ own → NsObj oC m₂ → m₂ x = some v → Fr h₀ L h m → News h₀ L h (own ++ led₁) →
      wpAny (model prog w) A (eval elt (compEnvC scope cl C env)) (CompOut h₀ L m { s with heap := h, toks := tk } own led₁ (fun y led₂ => J (i + 1) (ys ++ [y]) led₂)) E' { s with heap := h, toks := tk })
    (fin : ∀ D h tk ys led₁, Fr h₀ L h (fun z => if z = y then some (.ref D) else m z) → News h₀ L h ((D, lst ys) :: led₁) → (∀ p ∈ led₁, p.1 ≠ D) → (∀ p ∈ led, p.1 < D) → ys.length = its.size → J its.size ys led₁ → Q .next { s with heap := h, toks := tk }) :
    IterA1 prog w A E h₀ L m env elt x scope cl y Q (.ref ax) s := by
  have hl : s.heap.IsList ax its := ⟨_, (N _ hm).1, rfl, _, rfl⟩
  have hne : ax ≠ s.heap.objs.size := Nat.ne_of_lt (Heap.lt_size (N _ hm).1)
  refine wpAny_pyIter_list hl ?_
  refine fun _ k9 => k9 s.heap.objs.size _ _ its.size _ _ led J rfl (Walks.list hh s.heap.objs.size ax hne its) hsz ⟨⟨_, Heap.get?_push_size _ rfl, rfl, rfl⟩, hl.push _⟩ ?_ (F.push _) (fun p hp => ⟨Heap.get?_push_of_some _ (N p hp).1, (N p hp).2⟩) ?_ ?_ ?_ h0 ?_ ?_
  · rintro i h ⟨⟨o, e, _⟩, o', e', _⟩ b hb
    rcases List.mem_cons.mp hb with rfl | hb
    · exact ⟨o, e⟩
    · rw [List.mem_singleton.mp hb]; exact ⟨o', e'⟩
  · intro hb
    rcases List.mem_cons.mp hb with e | hb
    · exact absurd F.ns.lt (e ▸ Nat.lt_irrefl _)
    · exact (N _ hm).2.1 (List.mem_singleton.mp hb).symm
  · intro b hb
    rw [List.mem_singleton.mp hb]
    exact next_is_new F
  · intro p hp hI
    exact absurd (Heap.lt_size (N p hp).1) ((List.mem_singleton.mp hI) ▸ Nat.lt_irrefl _)
  · exact fun i v ys led₁ own C oC m₂ h tk E' a b c d _ e => turn i v ys led₁ own C oC m₂ h tk E' a b c d e
  · intro D h tk ys led₁ N' hD hlt hlen hJ
    exact ⟨D, _, rfl, (N' _ List.mem_cons_self).1, fun h' tk' F' N'' => fin D h' _ ys led₁ F' N'' hD hlt hlen hJ⟩
theorem IterA1.range {elt : Expr} {x : Str} {scope : Scope} {cl : List (Str × Addr)} {y : Str} {Q : Flow → Shared → Prop} {r : Addr} {a b : Int} {t u v' : Tok} {n : Nat} (hh : A.handled = none) (F : Fr h₀ L s.heap m) (N : News h₀ L s.heap led) (hr : IsRange s.heap r a b 1 t u v') (hsm : Builtin.Range.small a b 1 = true) (hn : Builtin.Range.rangeSize a b 1 = ((n : Nat) : Int)) (hsz : n ≤ sizeLine)
    (J : Nat → List Value → List (Addr × Obj) → Prop) (h0 : J 0 [] led)
    (turn : ∀ i v ys led₁ own C oC m₂ h tk (E' : Value → Shared → Prop), i < n → (∃ t, v = .int (a + (i : Int)) t) → J i ys led₁ → (C, oC) ∈ own → NsObj oC m₂ → m₂ x = some v → Fr h₀ L h m → News h₀ L h (own ++ led₁) →
      wpAny (model prog w) A (eval elt (compEnvC scope cl C env)) (CompOut h₀ L m { s with heap := h, toks := tk } own led₁ (fun y led₂ => J (i + 1) (ys ++ [y]) led₂)) E' { s with heap := h, toks := tk })
    (fin : ∀ D h tk ys led₁, Fr h₀ L h (fun z => if z = y then some (.ref D) else m z) → News h₀ L h ((D, lst ys) :: led₁) → (∀ p ∈ led₁, p.1 ≠ D) → (∀ p ∈ led, p.1 < D) → ys.length = n → J n ys led₁ → Q .next { s with heap := h, toks := tk }) :
    IterA1 prog w A E h₀ L m env elt x scope cl y Q (.ref r) s := by
  refine wpAny_pyIter_range hr hsm ?_
  refine fun _ k9 => k9 s.heap.objs.size _ _ n _ _ led J rfl (range_walks hh a n) hsz (by show IsRangeIter _ _ _ _ _; rw [hn]; simpa using Heap.get?_push_size _ rfl) ?_ (F.push _) (fun p hp => ⟨Heap.get?_push_of_some _ (N p hp).1, (N p hp).2⟩) ?_ ?_ ?_ h0 ?_ ?_
  · intro i h st b hb
    rw [List.mem_singleton.mp hb]; exact ⟨_, st⟩
  · intro hb
    exact absurd F.ns.lt ((List.mem_singleton.mp hb) ▸ Nat.lt_irrefl _)
  · intro b hb
    rw [List.mem_singleton.mp hb]
    exact next_is_new F
  · intro p hp hI
    exact absurd (Heap.lt_size (N p hp).1) ((List.mem_singleton.mp hI) ▸ Nat.lt_irrefl _)
  · exact fun i v ys led₁ own C oC m₂ h tk E' a b c d _ e => turn i v ys led₁ own C oC m₂ h tk E' a b c d e
  · intro D h tk ys led₁ N' hD hlt hlen hJ
    exact ⟨D, _, rfl, (N' _ List.mem_cons_self).1, fun h' tk' F' N'' => fin D h' _ ys led₁ F' N'' hD hlt hlen hJ⟩
theorem zip_cmp2 {elt : Expr} {x x₂ : Str} {scope : Scope} {cl : List (Str × Addr)} {Fin : Shared → Value → Heap → Nat → List (Addr × Obj) → Prop} {l1 l2 : Addr} {xs ys : Array Value} {k1 k2 : Nat} (hh : A.handled = none) (F : Fr h₀ L s.heap m) (N : News h₀ L s.heap led)
    (hm1 : (l1, ({ cls := .type "list", data := .seq xs k1 } : Obj)) ∈ led) (hm2 : (l2, ({ cls := .type "list", data := .seq ys k2 } : Obj)) ∈ led) (hsz : xs.size ≤ sizeLine)
    (J : Nat → List Value → List (Addr × Obj) → Prop) (h0 : J 0 [] led)
    (turn : ∀ i v v₂ zs led₁ own C oC m₂ h tk (E' : Value → Shared → Prop), i < min xs.size ys.size → xs[i]? = some v → ys[i]? = some v₂ → J i zs led₁ → (C, oC) ∈ own → NsObj oC m₂ → m₂ x = some v → m₂ x₂ = some v₂ → Fr h₀ L h m → News h₀ L h (own ++ led₁) →
      wpAny (model prog w) A (eval elt (compEnvC scope cl C env)) (CompOut h₀ L m { s with heap := h, toks := tk } own led₁ (fun y led₂ => J (i + 1) (zs ++ [y]) led₂)) E' { s with heap := h, toks := tk })
    (fin : ∀ g D h tk zs led₁, News h₀ L h ((D, lst zs) :: led₁) → (∀ p ∈ led₁, p.1 ≠ D) → (∀ p ∈ led, p.1 < D) → zs.length = min xs.size ys.size → J (min xs.size ys.size) zs led₁ → Fin { s with heap := g } (.ref D) h tk led₁) :
    wpAny (model prog w) A (call (.type "zip") [.ref l1, .ref l2]) (fun xv s₁ => wpAny (model prog w) A (pyIter xv) (fun it s₂ => Cmp2 prog w A h₀ L m env elt x x₂ scope cl (Fin s₂) it s₂) E s₁) E s := by
  have hl1 : s.heap.IsList l1 xs := ⟨_, (N _ hm1).1, rfl, _, rfl⟩
  have hl2 : s.heap.IsList l2 ys := ⟨_, (N _ hm2).1, rfl, _, rfl⟩
  have lt1 : l1 < s.heap.objs.size := Heap.lt_size (N _ hm1).1
  have lt2 : l2 < s.heap.objs.size := Heap.lt_size (N _ hm2).1
  have ltL : L < s.heap.objs.size := F.ns.lt
  refine call_zip_2 hl1 hl2 fun h' hz hTI hTO h1 h2 hsz' hk => ?_
  refine wpAny_pyIter_zip hz ?_
  have D := zipApart_of s.heap.objs.size l1 l2 lt1 lt2
  have hLk : ∀ j : Nat, L ≠ s.heap.objs.size + j := fun j => Nat.ne_of_lt (Nat.lt_of_lt_of_le ltL (Nat.le_add_right _ _))
  have hnew : ∀ j : Nat, h₀.get? (s.heap.objs.size + j) = none := fun j => Heap.get?_none_of_le (Nat.le_trans (Nat.le_of_lt (Nat.lt_of_le_of_lt F.above ltL)) (Nat.le_add_right _ _))
  have W := (WalksT.zip2 (prog := prog) (w := w) hh _ _ _ _ _ _ _ D xs ys).toU
  refine fun _ k9 => k9 _ _ _ _ _ _ _ led J rfl hh W (fun i vals ⟨a, b, _, _, e⟩ => ⟨a, b, e⟩) (Nat.le_trans (Nat.min_le_left ..) hsz) ⟨hz, hTI, ⟨_, _, hTO⟩, h1, h2, hl1.at fun o e => hk _ o e, hl2.at fun o e => hk _ o e⟩ ?_ (F.keeps hk) (N.grown hk) ?_ ?_ ?_ h0 ?_ ?_
  · exact fun i h ⟨a1, a2, ⟨_, _, a3⟩, ⟨_, a4, _⟩, ⟨_, a5, _⟩, ⟨_, a6, _⟩, _, a7, _⟩ => all7 ⟨_, a1⟩ ⟨_, a2⟩ ⟨_, a3⟩ ⟨_, a4⟩ ⟨_, a5⟩ ⟨_, a6⟩ ⟨_, a7⟩
  · exact fun hb => all7 (P := fun x => L ≠ x) (hLk 4) (hLk 2) (hLk 3) (hLk 0) (hLk 1) (Ne.symm (N _ hm1).2.1) (Ne.symm (N _ hm2).2.1) _ hb rfl
  · exact all4 (P := fun b => h₀.get? b = none) (hnew 4) (hnew 3) (hnew 0) (hnew 1)
  · intro p hp hI
    have no : ∀ j : Nat, p.1 ≠ s.heap.objs.size + j := fun j => Nat.ne_of_lt (Nat.lt_of_lt_of_le (Heap.lt_size (N p hp).1) (Nat.le_add_right _ _))
    exact all4 (P := fun b => p.1 ≠ b) (no 4) (no 3) (no 0) (no 1) _ hI rfl
  · rintro i v v₂ zs led₁ own C oC m₂ h tk E' hi ⟨a, b, ha, hb, e⟩
    have e' : [v, v₂] = [a, b] := congrArg Array.toList e
    injection e' with e1 e2
    injection e2 with e2
    subst e1 e2
    exact turn i v v₂ zs led₁ own C oC m₂ h tk E' hi ha hb
  · exact fun D h tk zs led₁ N' hD hlt hlen hJ => fin _ D h tk zs led₁ N' hD hlt hlen hJ
theorem IterE2.zip {elt : Expr} {x x₂ : Str} {scope : Scope} {cl : List (Str × Addr)} {Q : Value → Shared → Prop} {l1 l2 : Addr} {xs ys : Array Value} {k1 k2 : Nat} (hh : A.handled = none) (F : Fr h₀ L s.heap m) (N : News h₀ L s.heap led)
    (hm1 : (l1, ({ cls := .type "list", data := .seq xs k1 } : Obj)) ∈ led) (hm2 : (l2, ({ cls := .type "list", data := .seq ys k2 } : Obj)) ∈ led) (hsz : xs.size ≤ sizeLine)
    (J : Nat → List Value → List (Addr × Obj) → Prop) (h0 : J 0 [] led)
    (turn : ∀ i v v₂ zs led₁ own C oC m₂ h tk (E' : Value → Shared → Prop), i < min xs.size ys.size → xs[i]? = some v → ys[i]? = some v₂ → J i zs led₁ → (C, oC) ∈ own → NsObj oC m₂ → m₂ x = some v → m₂ x₂ = some v₂ → Fr h₀ L h m → News h₀ L h (own ++ led₁) →
      wpAny (model prog w) A (eval elt (compEnvC scope cl C env)) (CompOut h₀ L m { s with heap := h, toks := tk } own led₁ (fun y led₂ => J (i + 1) (zs ++ [y]) led₂)) E' { s with heap := h, toks := tk })
    (fin : ∀ D h tk zs led₁, Fr h₀ L h m → News h₀ L h ((D, lst zs) :: led₁) → (∀ p ∈ led₁, p.1 ≠ D) → (∀ p ∈ led, p.1 < D) → zs.length = min xs.size ys.size → J (min xs.size ys.size) zs led₁ → Q (.ref D) { s with heap := h, toks := tk }) :
    wpAny (model prog w) A (call (.type "zip") [.ref l1, .ref l2]) (IterE2 prog w A E h₀ L m env elt x x₂ scope cl Q) E s :=
  zip_cmp2 (Fin := fun s₂ => FinOfE h₀ L m s₂ Q) hh F N hm1 hm2 hsz J h0 turn fun g D h tk zs led₁ N' hD hlt hlen hJ => ⟨D, _, rfl, (N' _ List.mem_cons_self).1, fun h' F' N'' => fin D h' _ zs led₁ F' N'' hD hlt hlen hJ⟩
end
end Mine
-- RowLib
set_option maxRecDepth 100000
namespace Mine
open PySem PySem.Spec PySem.Calls PyProof.Rows PyProof.Rows.LCg PySem.W

/-- the values of a row, each the fraction beside it -/
inductive Cells (led : List (Addr × Obj)) : List Value → List Rat → Prop
  | nil : Cells led [] []
  | cons {a : Addr} {q : Rat} {t u : Tok} {cs : List Value} {qs : List Rat} : (a, ({ cls := .type "tuple", data := .seq #[.int q.num t, .int (q.den : Nat) u] } : Obj)) ∈ led → Cells led cs qs → Cells led (.ref a :: cs) (q :: qs)
theorem Cells.mono {led led' : List (Addr × Obj)} {cs : List Value} {qs : List Rat} (h : Cells led cs qs) (hs : ∀ p ∈ led, p ∈ led') : Cells led' cs qs := by
  induction h with
  | nil => exact .nil
  | cons hm _ ih => exact .cons (hs _ hm) ih
theorem Cells.length {led : List (Addr × Obj)} {cs : List Value} {qs : List Rat} (h : Cells led cs qs) : cs.length = qs.length := by
  induction h with
  | nil => rfl
  | cons _ _ ih => simp [ih]
theorem Cells.get {led : List (Addr × Obj)} {cs : List Value} {qs : List Rat} (h : Cells led cs qs) : ∀ {i : Nat} {v : Value}, cs[i]? = some v →
    ∃ a q t u, v = .ref a ∧ (a, ({ cls := .type "tuple", data := .seq #[.int (q : Rat).num t, .int (q.den : Nat) u] } : Obj)) ∈ led ∧ qs[i]? = some q := by
  induction h with
  | nil => intro i v e; cases e
  | @cons a q t u cs qs hm _ ih =>
    intro i v e
    cases i with
    | zero => cases e; exact ⟨a, q, t, u, rfl, hm, rfl⟩
    | succ i => obtain ⟨a', q', t', u', h1, h2, h3⟩ := ih e; exact ⟨a', q', t', u', h1, h2, h3⟩
theorem Cells.snoc {led : List (Addr × Obj)} {cs : List Value} {qs : List Rat} {a : Addr} {q : Rat} {t u : Tok} (h : Cells led cs qs) (hm : (a, ({ cls := .type "tuple", data := .seq #[.int q.num t, .int (q.den : Nat) u] } : Obj)) ∈ led) : Cells led (cs ++ [.ref a]) (qs ++ [q]) := by
  induction h with
  | nil => exact .cons hm .nil
  | cons hm' _ ih => exact .cons hm' ih
/-- what stands behind a call: the elder ledger with new things above it -/
def Ext (led led' : List (Addr × Obj)) : Prop := ∃ tl, led' = tl ++ led ∧ ∀ p ∈ tl, ∀ q ∈ led, q.1 < p.1
theorem lt_of_all {d : Addr} {l : List (Addr × Obj)} (h : AllLt d l) : ∀ p ∈ l, p.1 < d := ktn_ltOf h
theorem compOut_one {h₀ : Heap} {L x : Addr} {o : Obj} {m : Str → Option Value} {s₁ : Shared} {own led₁ rest : List (Addr × Obj)} {J : Value → List (Addr × Obj) → Prop} {h' : Heap} {tk : Nat}
    (F : Fr h₀ L h' m) (N : News h₀ L h' ((x, o) :: rest)) (hsub : ∀ p ∈ own ++ led₁, p ∈ rest) (hlt : AllLt x rest) (hJ : J (.ref x) ((x, o) :: led₁)) : CompOut h₀ L m s₁ own led₁ J (.ref x) { s₁ with heap := h', toks := tk } := by
  refine ⟨h', tk, (x, o) :: led₁, rfl, F, fun p hp => N p ?_, fun p hp => ?_, hJ⟩
  · rcases List.mem_append.mp hp with hp | hp
    · exact List.mem_cons_of_mem _ (hsub p (List.mem_append_left _ hp))
    · rcases List.mem_cons.mp hp with rfl | hp
      · exact List.mem_cons_self
      · exact List.mem_cons_of_mem _ (hsub p (List.mem_append_right _ hp))
  · rcases List.mem_cons.mp hp with rfl | hp
    · exact .inr fun q hq => lt_of_all hlt q (hsub q (List.mem_append_left _ hq))
    · exact .inl ⟨p, hp, rfl⟩
theorem compOut_same {h₀ : Heap} {L : Addr} {m : Str → Option Value} {s₁ : Shared} {own led₁ rest : List (Addr × Obj)} {J : Value → List (Addr × Obj) → Prop} {h' : Heap} {tk : Nat} {v : Value}
    (F : Fr h₀ L h' m) (N : News h₀ L h' rest) (hsub : ∀ p ∈ own ++ led₁, p ∈ rest) (hJ : J v led₁) : CompOut h₀ L m s₁ own led₁ J v { s₁ with heap := h', toks := tk } :=
  ⟨h', tk, led₁, rfl, F, fun p hp => N p (hsub p hp), fun p hp => .inl ⟨p, hp, rfl⟩, hJ⟩

/-- a row that stands in the ledger as a list of fractions -/
def RowIn (led : List (Addr × Obj)) (v : Value) (qs : List Rat) : Prop := ∃ r k cs, v = .ref r ∧ (r, ({ cls := .type "list", data := .seq (List.toArray cs) k } : Obj)) ∈ led ∧ Cells led cs qs
theorem RowIn.mono {led led' : List (Addr × Obj)} {v : Value} {qs : List Rat} (h : RowIn led v qs) (hs : ∀ p ∈ led, p ∈ led') : RowIn led' v qs := by
  obtain ⟨r, k, cs, e, hm, hc⟩ := h
  exact ⟨r, k, cs, e, hs _ hm, hc.mono hs⟩
def Qbs (k : Nat) (qs : List Rat) : Prop := ∀ q ∈ qs, Qb k q
theorem take_zip_succ {f : Rat → Rat → Rat} {ps qs : List Rat} {i : Nat} {p q : Rat} (hp : ps[i]? = some p) (hq : qs[i]? = some q) :
    List.zipWith f (ps.take (i + 1)) (qs.take (i + 1)) = List.zipWith f (ps.take i) (qs.take i) ++ [f p q] := by
  have h1 : ps.take (i + 1) = ps.take i ++ [p] := by rw [List.take_add_one, hp]; rfl
  have h2 : qs.take (i + 1) = qs.take i ++ [q] := by rw [List.take_add_one, hq]; rfl
  rw [h1, h2]
  have hi : i < ps.length := (List.getElem?_eq_some_iff.mp hp).1
  have hi' : i < qs.length := (List.getElem?_eq_some_iff.mp hq).1
  rw [List.zipWith_append (by rw [List.length_take, List.length_take]; lia)]
  rfl
theorem take_map_succ {f : Rat → Rat} {ps : List Rat} {i : Nat} {p : Rat} (hp : ps[i]? = some p) : (ps.take (i + 1)).map f = (ps.take i).map f ++ [f p] := by
  rw [List.take_add_one, hp, List.map_append]; rfl
theorem zip_take_all {f : Rat → Rat → Rat} {ps qs : List Rat} : List.zipWith f (ps.take (min ps.length qs.length)) (qs.take (min ps.length qs.length)) = List.zipWith f ps qs := by
  rw [← List.take_zipWith, List.take_of_length_le]
  rw [List.length_zipWith]
  exact Nat.le_refl _
end Mine
-- Loop
set_option maxHeartbeats 4000000
set_option maxRecDepth 100000
namespace Mine
open PySem PySem.Spec PySem.Calls PyProof.Rows PyProof.Rows.LCg PySem.W

/-- the end of a turn of a for -/
def ForOut (h₀ : Heap) (L : Addr) (own led₁ : List (Addr × Obj)) (J : (Str → Option Value) → List (Addr × Obj) → Prop) (s₁ : Shared) (Q : Flow → Shared → Prop) (f : Flow) (s₂ : Shared) : Prop :=
  match f with
  | .ret v => Q (.ret v) s₂
  | .brk => Q .next s₂
  | _ => ∃ h' tk m₂ led₂, s₂ = { s₁ with heap := h', toks := tk } ∧ Fr h₀ L h' m₂ ∧ News h₀ L h' (own ++ led₂) ∧ (∀ p ∈ led₂, (∃ q ∈ led₁, q.1 = p.1) ∨ ∀ q ∈ own, q.1 < p.1) ∧ J m₂ led₂

section
variable {prog : Program} {w : World} {A : Around} {E : Value → Shared → Prop} {s : Shared} {h₀ : Heap} {env : Env} {x : Str} {body : List Stmt} {Q : Flow → Shared → Prop} {m : Str → Option Value} {led : List (Addr × Obj)}
def IterF (prog : Program) (w : World) (A : Around) (E : Value → Shared → Prop) (h₀ : Heap) (env : Env) (x : Str) (body : List Stmt) (Q : Flow → Shared → Prop) (xv : Value) (s₁ : Shared) : Prop :=
  wpAny (model prog w) A (pyIter xv) (fun it s₂ => LoopAtV prog w A h₀ env x body Q E it s₂) E s₁
theorem ForF {px pos : Pos} {iter : Expr} (_F : Fr h₀ env.locals s.heap m) (hx : env.kindOf x = some .local)
    (hp : (env.scope.kind == .class || (env.scope.kind == .module && env.locals != env.globals)) = false)
    (hE : PassesOwn (model prog w) A env E)
    (h : wpAny (model prog w) A (eval iter env) (IterF prog w A E h₀ env x body Q) E s)
    (hs : ∀ x, foldedSetIterable iter env x = pure x) :
    wpAny (model prog w) A (exec (.For (.Name x px) iter body [] pos) env) Q E s := For_invV h₀ hx hp h hs hE
theorem IterF.range {r : Addr} {a b : Int} {t u v' : Tok} {n : Nat} (hh : A.handled = none) (F : Fr h₀ env.locals s.heap m) (N : News h₀ env.locals s.heap led) (hr : IsRange s.heap r a b 1 t u v') (hsm : Builtin.Range.small a b 1 = true) (hn : Builtin.Range.rangeSize a b 1 = ((n : Nat) : Int))
    (J : Nat → (Str → Option Value) → List (Addr × Obj) → Prop) (h0 : J 0 m led)
    (turn : ∀ i t m₁ led₁ own h tk, i < n → J i m₁ led₁ → (∀ p ∈ led₁, ∀ q ∈ own, p.1 ≠ q.1) → (∀ q ∈ own, q.2.cls = .type "range_iterator") → Fr h₀ env.locals h (fun y => if y = x then some (.int (a + (i : Int)) t) else m₁ y) → News h₀ env.locals h (own ++ led₁) →
      wpAny (model prog w) A (execs body env) (ForOut h₀ env.locals own led₁ (J (i + 1)) { s with heap := h, toks := tk } Q) E { s with heap := h, toks := tk })
    (done : ∀ h tk m₁ led₁, J n m₁ led₁ → Fr h₀ env.locals h m₁ → News h₀ env.locals h led₁ → Q .next { s with heap := h, toks := tk }) :
    IterF prog w A E h₀ env x body Q (.ref r) s := by
  refine wpAny_pyIter_range hr hsm ?_
  refine ⟨s.heap.objs.size, _, _, n, _, _, m, led, J, rfl, range_walks hh a n, ?_, ?_, ?_, (by show IsRangeIter _ _ _ _ _; rw [hn]; simpa using Heap.get?_push_size _ rfl), F.push _, (fun p hp => ⟨Heap.get?_push_of_some _ (N p hp).1, (N p hp).2⟩), h0, ?_, ?_⟩
  · intro hm
    exact absurd F.ns.lt ((List.mem_singleton.mp hm) ▸ Nat.lt_irrefl _)
  · intro b hb
    rw [List.mem_singleton.mp hb]
    exact next_is_new F
  · intro p hp hI
    exact absurd (Heap.lt_size (N p hp).1) ((List.mem_singleton.mp hI) ▸ Nat.lt_irrefl _)
  · rintro i v m₁ led₁ s₁ own ⟨h, tk, rfl⟩ hi ⟨t', rfl⟩ hJ hnw hown hown2 hlive hst F₁ N₁
    have hI₀ : h₀.get? s.heap.objs.size = none := next_is_new F
    have hIown : (s.heap.objs.size, _) ∈ own := hlive _ (List.mem_singleton.mpr rfl) hI₀ _ hst
    have off : ∀ led₂ : List (Addr × Obj), (∀ p ∈ led₂, (∃ q ∈ led₁, q.1 = p.1) ∨ ∀ q ∈ own, q.1 < p.1) → ∀ p ∈ led₂, p.1 ∉ [s.heap.objs.size] := fun led₂ ho p hp hI =>
      (ho p hp).elim (fun ⟨q, hq, e⟩ => hnw q hq (by rw [e]; exact hI)) fun hall => absurd (hall _ hIown) (by rw [List.mem_singleton.mp hI]; exact Nat.lt_irrefl _)
    refine wpAny_mono (turn i t' m₁ led₁ own h tk hi hJ (fun p hp q hq e => hnw p hp (by rw [e]; exact hown q hq)) (fun q hq => by have h1 := hown2 q hq; rw [List.mem_singleton.mp (hown q hq)] at h1; have h2 : some q.2 = some _ := h1.symm.trans hst; rw [Option.some.inj h2]) F₁ N₁) (fun f s₂ q => ?_) fun _ _ e => e
    cases f with
    | ret v => exact .ret q
    | brk => exact .brk q
    | next =>
      obtain ⟨h', tk', m₂, led₂, e, F₂, N₂, ho, hJ₂⟩ := q
      exact .next ⟨rfl, h', tk', m₂, led₂, e, F₂, N₂, off _ ho, hJ₂⟩
    | cont =>
      obtain ⟨h', tk', m₂, led₂, e, F₂, N₂, ho, hJ₂⟩ := q
      exact .cont ⟨rfl, h', tk', m₂, led₂, e, F₂, N₂, off _ ho, hJ₂⟩
  · rintro h' tk m' led' F' N' _ hJ
    exact done h' tk m' led' hJ F' N'

theorem small_of {a b : Int} {n : Nat} (ha : 0 ≤ a) (hb : b < 2 ^ 30) (hn : (n : Int) = b - a) : Builtin.Range.small a b 1 = true ∧ Builtin.Range.rangeSize a b 1 = ((n : Nat) : Int) := by
  have e : Builtin.Range.rangeSize a b 1 = ((n : Nat) : Int) := by
    rw [rangeSize_one]
    split <;> lia
  exact ⟨small_one (by lia) (by lia) (by lia) (by lia), e⟩
/-- an item of a list at an index that is shown to lie within -/
theorem item_at {value slice : Expr} {l : Addr} {vs : List Value} {k : Int} {c : Nat} {u : Tok} {v : Value} {L : Addr} {Q : Value → Shared → Prop} (N : News h₀ L s.heap led) (hm : (l, ({ cls := .type "list", data := .seq vs.toArray c } : Obj)) ∈ led)
    (hx : vs[k.toNat]? = some v) (h0 : 0 ≤ k) (hhi : k < 2 ^ 63) (h : Q v s)
    (hs : subscripted slice false (.ref l) (.int k u) = operate [.ref l, .int k u] (getItem (.ref l) (.int k u))) :
    wpAny (model prog w) A (subscriptTail value slice (.ref l) (.int k u)) Q E s :=
  have hl : s.heap.IsList l vs.toArray := ⟨_, (N _ hm).1, rfl, _, rfl⟩
  tail_any hl.typeIs slot_list_getitem.lookup (wpAny_getItem_list hl h0 hhi (by simpa using hx) h) hs
end
theorem fr_known {h₀ h : Heap} {L : Addr} {m : Str → Option Value} {x : Str} {v : Value} (F : Fr h₀ L h m) (e : m x = some v) : Fr h₀ L h (fun z => if z = x then some v else m z) := by
  have : (fun z => if z = x then some v else m z) = m := by
    funext z
    by_cases hz : z = x
    · subst hz; simp [e]
    · simp [hz]
  rw [this]; exact F
/-- rows that stand in the ledger -/
def Rows (led : List (Addr × Obj)) (rs : List Value) (M : List (List Rat)) : Prop := rs.length = M.length ∧ ∀ (i : Nat) (v : Value), rs[i]? = some v → ∃ qs, M[i]? = some qs ∧ RowIn led v qs
theorem Rows.mono {led led' : List (Addr × Obj)} {rs : List Value} {M : List (List Rat)} (h : Rows led rs M) (hs : ∀ p ∈ led, p ∈ led') : Rows led' rs M :=
  ⟨h.1, fun i v e => by obtain ⟨qs, h1, h2⟩ := h.2 i v e; exact ⟨qs, h1, h2.mono hs⟩⟩
theorem Rows.at {led : List (Addr × Obj)} {rs : List Value} {M : List (List Rat)} (h : Rows led rs M) {i : Nat} {qs : List Rat} (e : M[i]? = some qs) : ∃ v, rs[i]? = some v ∧ RowIn led v qs := by
  have hi : i < rs.length := by rw [h.1]; exact (List.getElem?_eq_some_iff.mp e).1
  obtain ⟨qs', h1, h2⟩ := h.2 i rs[i] (List.getElem?_eq_getElem hi)
  rw [e] at h1
  cases h1
  exact ⟨rs[i], List.getElem?_eq_getElem hi, h2⟩
theorem Rows.set {led : List (Addr × Obj)} {rs : List Value} {M : List (List Rat)} (h : Rows led rs M) {i : Nat} {v : Value} {qs : List Rat} (hr : RowIn led v qs) : Rows led (rs.set i v) (M.set i qs) := by
  refine ⟨by rw [List.length_set, List.length_set, h.1], fun j v' e => ?_⟩
  by_cases hij : i = j
  · subst hij
    by_cases hi : i < rs.length
    · rw [List.getElem?_set_self hi] at e
      cases e
      exact ⟨qs, List.getElem?_set_self (by rw [← h.1]; exact hi), hr⟩
    · rw [List.set_eq_of_length_le (Nat.not_lt.mp hi)] at e
      exact absurd (List.getElem?_eq_some_iff.mp e).1 hi
  · rw [List.getElem?_set_ne hij] at e ⊢
    exact h.2 j v' e
theorem Cells.at {led : List (Addr × Obj)} {cs : List Value} {qs : List Rat} (h : Cells led cs qs) {i : Nat} {q : Rat} (e : qs[i]? = some q) :
    ∃ a t u, cs[i]? = some (.ref a) ∧ (a, ({ cls := .type "tuple", data := .seq #[.int q.num t, .int (q.den : Nat) u] } : Obj)) ∈ led := by
  have hi : i < cs.length := by rw [h.length]; exact (List.getElem?_eq_some_iff.mp e).1
  obtain ⟨a, q', t, u, h1, h2, h3⟩ := h.get (List.getElem?_eq_getElem hi)
  rw [e] at h3
  cases h3
  exact ⟨a, t, u, by rw [List.getElem?_eq_getElem hi, h1], h2⟩
/-- the first row from `at` on whose cell in that column is not nought; k rows looked at -/
noncomputable def pivotIn (M : List (List Rat)) (c : Nat) : Nat → Nat → Option Nat
  | 0, _ => none
  | k + 1, i => if ((M.getD i []).getD c 0) ≠ 0 then some i else pivotIn M c k (i + 1)
theorem pivotIn_hit {M : List (List Rat)} {c k i : Nat} {qs : List Rat} {q : Rat} (h1 : M[i]? = some qs) (h2 : qs[c]? = some q) (hq : q ≠ 0) : pivotIn M c (k + 1) i = some i := by
  have e : (M.getD i []).getD c 0 = q := by rw [List.getD_eq_getElem?_getD, List.getD_eq_getElem?_getD, h1, Option.getD_some, h2, Option.getD_some]
  unfold pivotIn
  rw [e, if_pos hq]
theorem pivotIn_miss {M : List (List Rat)} {c k i : Nat} {qs : List Rat} {q : Rat} (h1 : M[i]? = some qs) (h2 : qs[c]? = some q) (hq : q = 0) : pivotIn M c (k + 1) i = pivotIn M c k (i + 1) := by
  have e : (M.getD i []).getD c 0 = q := by rw [List.getD_eq_getElem?_getD, List.getD_eq_getElem?_getD, h1, Option.getD_some, h2, Option.getD_some]
  conv => lhs; unfold pivotIn
  rw [e, if_neg (not_not_intro hq)]
theorem forOut_same {h₀ : Heap} {L : Addr} {own led₁ rest : List (Addr × Obj)} {J : (Str → Option Value) → List (Addr × Obj) → Prop} {s₁ : Shared} {Q : Flow → Shared → Prop} {h' : Heap} {tk : Nat} {m₂ : Str → Option Value}
    (F : Fr h₀ L h' m₂) (N : News h₀ L h' rest) (hs : ∀ p ∈ own ++ led₁, p ∈ rest) (hJ : J m₂ led₁) : ForOut h₀ L own led₁ J s₁ Q .next { s₁ with heap := h', toks := tk } :=
  ⟨h', tk, m₂, led₁, rfl, F, fun p hp => N p (hs p hp), fun p hp => .inl ⟨p, hp, rfl⟩, hJ⟩
end Mine
-- Solve
set_option maxRecDepth 100000
namespace Mine
open PySem PySem.Spec PySem.Calls PyProof.Rows PyProof.Rows.LCg PySem.W PySem.Builtin.Int

abbrev Mat := List (List Rat)
noncomputable def cellM (M : Mat) (i j : Nat) : Rat := (M.getD i []).getD j 0
noncomputable def clearOne (c : Nat) (M : Mat) (o : Nat) : Mat :=
  if o ≠ c ∧ cellM M o c ≠ 0 then M.set o (List.zipWith (fun p q => p - cellM M o c * q) (M.getD o []) (M.getD c [])) else M
noncomputable def clearTo (c : Nat) (M : Mat) : Nat → Mat
  | 0 => M
  | j + 1 => clearOne c (clearTo c M j) j
noncomputable def swapM (M : Mat) (i j : Nat) : Mat := (M.set i (M.getD j [])).set j (M.getD i [])
noncomputable def normM (c : Nat) (M : Mat) : Mat := M.set c ((M.getD c []).map (· / cellM M c c))
noncomputable def turnM (n c : Nat) (M : Mat) (t : Rat) : Option (Mat × Rat) :=
  match pivotIn M c (M.length - c) c with
  | none => none
  | some p =>
    let M₁ := if p = c then M else swapM M c p
    let t₁ := if p = c then t else -t
    some (clearTo c (normM c M₁) n, t₁ * cellM M₁ c c)
noncomputable def solveM (n : Nat) : Nat → Nat → Mat → Rat → Mat × Rat
  | 0, _, M, t => (M, t)
  | k + 1, c, M, t => match turnM n c M t with
    | none => (M, 0)
    | some (M', t') => solveM n k (c + 1) M' t'

def Wide (n w : Nat) (M : Mat) : Prop := M.length = n ∧ ∀ qs ∈ M, qs.length = w
def Mbits (k : Nat) (M : Mat) : Prop := ∀ qs ∈ M, Qbs k qs
theorem Qb.neg {k : Nat} {q : Rat} (h : Qb k q) : Qb k (-q) := ⟨by rw [Rat.neg_num]; exact intBits_neg_le h.1, by rw [Rat.neg_den]; exact h.2⟩
theorem Wide.row {n w : Nat} {M : Mat} (h : Wide n w M) {i : Nat} (hi : i < n) : ∃ qs, M[i]? = some qs ∧ qs.length = w ∧ M.getD i [] = qs := by
  have hi' : i < M.length := by rw [h.1]; exact hi
  exact ⟨M[i], List.getElem?_eq_getElem hi', h.2 _ (List.getElem_mem hi'), by rw [List.getD_eq_getElem?_getD, List.getElem?_eq_getElem hi']; rfl⟩
theorem Wide.set {n w : Nat} {M : Mat} (h : Wide n w M) {i : Nat} {qs : List Rat} (hq : qs.length = w) : Wide n w (M.set i qs) := by
  refine ⟨by rw [List.length_set, h.1], fun r hr => ?_⟩
  rcases List.mem_or_eq_of_mem_set hr with hr | rfl
  · exact h.2 r hr
  · exact hq
theorem Mbits.set {k : Nat} {M : Mat} (h : Mbits k M) {i : Nat} {qs : List Rat} (hq : Qbs k qs) : Mbits k (M.set i qs) := fun r hr => by
  rcases List.mem_or_eq_of_mem_set hr with hr | rfl
  · exact h r hr
  · exact hq
theorem Mbits.mono {j k : Nat} {M : Mat} (h : Mbits j M) (hjk : j ≤ k) : Mbits k M := fun qs hq q hm => (h qs hq q hm).mono hjk
theorem Mbits.row {k : Nat} {M : Mat} (h : Mbits k M) {i : Nat} {qs : List Rat} (e : M[i]? = some qs) : Qbs k qs := h qs (List.mem_of_getElem? e)
theorem cellM_of {M : Mat} {i j : Nat} {qs : List Rat} {q : Rat} (h1 : M[i]? = some qs) (h2 : qs[j]? = some q) : cellM M i j = q := by
  unfold cellM
  rw [List.getD_eq_getElem?_getD, List.getD_eq_getElem?_getD, h1, Option.getD_some, h2, Option.getD_some]
theorem pivotIn_some {M : Mat} {c : Nat} : ∀ {k i p : Nat}, pivotIn M c k i = some p → i ≤ p ∧ p < i + k ∧ cellM M p c ≠ 0
  | 0, _, _, h => by cases h
  | k + 1, i, p, h => by
    unfold pivotIn at h
    split at h
    · rename_i hne
      cases h
      exact ⟨Nat.le_refl _, Nat.lt_add_of_pos_right (Nat.succ_pos k), hne⟩
    · have := pivotIn_some h
      exact ⟨Nat.le_of_succ_le this.1, Nat.add_right_comm i 1 k ▸ this.2.1, this.2.2⟩
theorem swapM_wide {n w : Nat} {M : Mat} (h : Wide n w M) {i j : Nat} (hi : i < n) (hj : j < n) : Wide n w (swapM M i j) := by
  obtain ⟨q1, _, l1, e1⟩ := h.row hi
  obtain ⟨q2, _, l2, e2⟩ := h.row hj
  unfold swapM
  rw [e1, e2]
  exact (h.set l2).set l1
theorem swapM_bits {n w k : Nat} {M : Mat} (h : Wide n w M) (hb : Mbits k M) {i j : Nat} (hi : i < n) (hj : j < n) : Mbits k (swapM M i j) := by
  obtain ⟨q1, g1, _, e1⟩ := h.row hi
  obtain ⟨q2, g2, _, e2⟩ := h.row hj
  unfold swapM
  rw [e1, e2]
  exact (hb.set (hb.row g2)).set (hb.row g1)
theorem normM_wide {n w : Nat} {M : Mat} (h : Wide n w M) {c : Nat} (hc : c < n) : Wide n w (normM c M) := by
  obtain ⟨q1, _, l1, e1⟩ := h.row hc
  unfold normM
  rw [e1]
  exact h.set (by rw [List.length_map, l1])
theorem normM_bits {n w k : Nat} {M : Mat} (h : Wide n w M) (hb : Mbits k M) {c : Nat} (hc : c < n) (hcw : c < w) : Mbits (k + k) (normM c M) := by
  obtain ⟨q1, g1, l1, e1⟩ := h.row hc
  have hcl : c < q1.length := l1 ▸ hcw
  have ep : cellM M c c = q1[c] := cellM_of g1 (List.getElem?_eq_getElem hcl)
  unfold normM
  rw [e1, ep]
  refine (hb.mono (Nat.le_add_right k k)).set fun q hq => ?_
  obtain ⟨p, hp, rfl⟩ := List.mem_map.mp hq
  exact Qb.div (hb.row g1 p hp) (hb.row g1 _ (List.getElem_mem hcl))
theorem clearTo_succ (c : Nat) (M : Mat) (j : Nat) : clearTo c M (j + 1) = clearOne c (clearTo c M j) j := rfl
theorem clearTo_off {c : Nat} {M : Mat} : ∀ {j o : Nat}, (j ≤ o ∨ o = c) → (clearTo c M j)[o]? = M[o]?
  | 0, _, _ => rfl
  | j + 1, o, h => by
    rw [clearTo_succ]
    unfold clearOne
    split
    · rename_i hc
      rw [List.getElem?_set_ne fun e : j = o => h.elim (fun h => Nat.not_succ_le_self o (e ▸ h)) fun h => hc.1 (e.trans h)]
      exact clearTo_off (h.imp_left Nat.le_of_succ_le)
    · exact clearTo_off (h.imp_left Nat.le_of_succ_le)
theorem clearTo_wide {n w : Nat} {M : Mat} (h : Wide n w M) {c : Nat} (hc : c < n) : ∀ {j : Nat}, j ≤ n → Wide n w (clearTo c M j)
  | 0, _ => h
  | j + 1, hj => by
    have ih := clearTo_wide h hc (j := j) (Nat.le_of_succ_le hj)
    rw [clearTo_succ]
    unfold clearOne
    split
    · obtain ⟨q1, g1, l1, e1⟩ := ih.row hj
      obtain ⟨q2, g2, l2, e2⟩ := ih.row hc
      rw [e1, e2]
      exact ih.set (by rw [List.length_zipWith, l1, l2, Nat.min_self])
    · exact ih
theorem three (k : Nat) : k + (k + k) + 1 = 3 * k + 1 := by lia
theorem Qbs.cleared {k : Nat} {ps qs : List Rat} {f : Rat} (hp : Qbs k ps) (hq : Qbs k qs) (hf : Qb k f) : Qbs (3 * k + 1) (List.zipWith (fun p q => p - f * q) ps qs) := by
  intro r hr
  obtain ⟨i, hi⟩ := List.mem_iff_getElem?.mp hr
  rw [List.getElem?_zipWith] at hi
  cases e1 : ps[i]? with
  | none => simp [e1] at hi
  | some p =>
    cases e2 : qs[i]? with
    | none => simp [e1, e2] at hi
    | some q =>
      simp only [e1, e2, Option.some.injEq] at hi
      subst hi
      exact (Qb.sub (hp p (List.mem_of_getElem? e1)) (Qb.mul hf (hq q (List.mem_of_getElem? e2)))).mono (Nat.le_of_eq (three k))
theorem clearTo_bits {n w k : Nat} {M : Mat} (h : Wide n w M) (hb : Mbits k M) {c : Nat} (hc : c < n) (hcw : c < w) : ∀ {j : Nat}, j ≤ n → Mbits (3 * k + 1) (clearTo c M j)
  | 0, _ => hb.mono (three k ▸ Nat.le_succ_of_le (Nat.le_add_right ..))
  | j + 1, hj => by
    have ih := clearTo_bits h hb hc hcw (j := j) (Nat.le_of_succ_le hj)
    have hw := clearTo_wide h hc (j := j) (Nat.le_of_succ_le hj)
    rw [clearTo_succ]
    unfold clearOne
    split
    · obtain ⟨q1, g1, l1, e1⟩ := hw.row hj
      obtain ⟨q2, g2, l2, e2⟩ := hw.row hc
      rw [e1, e2]
      have b1 : Qbs k q1 := hb.row ((clearTo_off (.inl (Nat.le_refl j))).symm.trans g1)
      have b2 : Qbs k q2 := hb.row ((clearTo_off (.inr rfl)).symm.trans g2)
      have hcl : c < q1.length := l1 ▸ hcw
      rw [cellM_of g1 (List.getElem?_eq_getElem hcl)]
      exact ih.set (Qbs.cleared b1 b2 (b1 _ (List.getElem_mem hcl)))
    · exact ih
/-- the bits behind c turns -/
noncomputable def Bit (k : Nat) : Nat → Nat
  | 0 => k
  | i + 1 => 6 * Bit k i + 1
theorem Bit.mono (k : Nat) : ∀ {i j : Nat}, i ≤ j → Bit k i ≤ Bit k j
  | i, 0, h => by rw [Nat.le_zero.mp h]; exact Nat.le_refl _
  | i, j + 1, h => by
    rcases Nat.lt_or_eq_of_le h with h | rfl
    · exact Nat.le_trans (Bit.mono k (Nat.le_of_lt_succ h)) (Nat.le_succ_of_le (Nat.le_mul_of_pos_left _ (by decide)))
    · exact Nat.le_refl _
theorem turnM_some {n w k c : Nat} {M M' : Mat} {t t' : Rat} (h : Wide n w M) (hb : Mbits k M) (ht : Qb k t) (hc : c < n) (hcw : c < w) (e : turnM n c M t = some (M', t')) : Wide n w M' ∧ Mbits (6 * k + 1) M' ∧ Qb (6 * k + 1) t' := by
  unfold turnM at e
  split at e
  · cases e
  · rename_i p hp
    have hps := pivotIn_some hp
    have hpn : p < n := Nat.lt_of_lt_of_eq hps.2.1 ((congrArg _ (congrArg (· - c) h.1)).trans (Nat.add_sub_cancel' (Nat.le_of_lt hc)))
    have key : ∀ M₁ t₁, Wide n w M₁ → Mbits k M₁ → Qb k t₁ → some (clearTo c (normM c M₁) n, t₁ * cellM M₁ c c) = some (M', t') → Wide n w M' ∧ Mbits (6 * k + 1) M' ∧ Qb (6 * k + 1) t' := by
      intro M₁ t₁ h1 b1 q1 e
      cases e
      have h2 := normM_wide h1 hc
      have b2 := normM_bits h1 b1 hc hcw
      refine ⟨clearTo_wide h2 hc (Nat.le_refl n), (clearTo_bits h2 b2 hc hcw (Nat.le_refl n)).mono (by lia), ?_⟩
      obtain ⟨qs, g, l, _⟩ := h1.row hc
      have hcl : c < qs.length := l ▸ hcw
      rw [cellM_of g (List.getElem?_eq_getElem hcl)]
      exact (Qb.mul q1 (b1.row g _ (List.getElem_mem hcl))).mono (by lia)
    by_cases hpc : p = c
    · simp only [if_pos hpc] at e
      exact key _ _ h hb ht e
    · simp only [if_neg hpc] at e
      exact key _ _ (swapM_wide h hc hpn) (swapM_bits h hb hc hpn) ht.neg e
theorem swapM_row {n w : Nat} {M : Mat} (h : Wide n w M) {i j : Nat} (hi : i < n) (hj : j < n) (hij : i ≠ j) : (swapM M i j)[i]? = some (M.getD j []) := by
  unfold swapM
  rw [List.getElem?_set_ne (Ne.symm hij), List.getElem?_set_self (by rw [h.1]; exact hi)]
theorem swapM_cell {n w : Nat} {M : Mat} (h : Wide n w M) {i j c : Nat} (hi : i < n) (hj : j < n) (hij : i ≠ j) : cellM (swapM M i j) i c = cellM M j c := by
  unfold cellM
  rw [List.getD_eq_getElem?_getD (l := swapM M i j), swapM_row h hi hj hij]
  rfl
theorem turnM_of {n c p : Nat} {M : Mat} {t : Rat} (hp : pivotIn M c (M.length - c) c = some p) : turnM n c M t = some (clearTo c (normM c (if p = c then M else swapM M c p)) n, (if p = c then t else -t) * cellM (if p = c then M else swapM M c p) c c) := by
  unfold turnM
  rw [hp]
theorem solveM_next {n c : Nat} {M M' : Mat} {t t' : Rat} (hc : c < n) (h : turnM n c M t = some (M', t')) : solveM n (n - c) c M t = solveM n (n - (c + 1)) (c + 1) M' t' := by
  rw [sub_step hc]
  conv => lhs; unfold solveM
  rw [h]
end Mine
-- Store
set_option maxRecDepth 100000
namespace Mine
open PySem PySem.Spec PySem.Calls PyProof.Rows PyProof.Rows.LCg PySem.W
section
variable {prog : Program} {w : World} {A : Around} {E : Value → Shared → Prop} {s : Shared} {h₀ : Heap} {L : Addr} {m : Str → Option Value} {led : List (Addr × Obj)}
theorem list_copy_at {l : Addr} {vs : List Value} {c : Nat} {Q : Value → Shared → Prop} (F : Fr h₀ L s.heap m) (N : News h₀ L s.heap led) (hm : (l, ({ cls := .type "list", data := .seq vs.toArray c } : Obj)) ∈ led) (hsz : vs.length ≤ sizeLine)
    (h : ∀ D c' h', Fr h₀ L h' m → News h₀ L h' ((D, ({ cls := .type "list", data := .seq vs.toArray c' } : Obj)) :: led) → (∀ q ∈ led, q.1 < D) → Q (.ref D) { s with heap := h' }) :
    wpAny (model prog w) A (call (.type "list") [.ref l]) Q E s :=
  list_copyK F N ⟨_, (N _ hm).1, rfl, _, rfl⟩ h (by simpa using hsz)
theorem set_at {l : Addr} {vs : List Value} {c : Nat} {k : Int} {u : Tok} {v : Value} {Q : Unit → Shared → Prop} (rest : List (Addr × Obj)) (F : Fr h₀ L s.heap m) (N : News h₀ L s.heap led) (hm : (l, ({ cls := .type "list", data := .seq vs.toArray c } : Obj)) ∈ led)
    (h0 : 0 ≤ k) (hk : k < vs.length) (hfit : k < 2 ^ 63) (hr : ∀ p ∈ rest, p ∈ led ∧ p.1 ≠ l)
    (h : ∀ c' h', Fr h₀ L h' m → News h₀ L h' ((l, ({ cls := .type "list", data := .seq (vs.set k.toNat v).toArray c' } : Obj)) :: rest) → Q () { s with heap := h' }) :
    wpAny (model prog w) A (setItem (.ref l) (.int k u) v) Q E s := by
  obtain ⟨hg, hL, hn⟩ := N _ hm
  refine ki_setAt hg h0 hfit (by simpa using hk) ?_
  have hs : Heap.SameBut l s.heap (s.heap.update l (Obj.mapSeq (·.setIfInBounds k.toNat v))) := Heap.SameBut.update ..
  have q := PySem.IsL.update hg (·.setIfInBounds k.toNat v)
  have e : vs.toArray.setIfInBounds k.toNat v = (vs.set k.toNat v).toArray := by
    apply Array.toList_inj.mp
    simp
  dsimp only at q
  rw [e] at q
  refine h (if (vs.set k.toNat v).toArray.size == vs.toArray.size then c else c + 1) _ (F.change hs hL hn) fun p hp => ?_
  rcases List.mem_cons.mp hp with rfl | hp
  · exact ⟨q, hL, hn⟩
  · obtain ⟨h1, h2⟩ := hr p hp
    exact ⟨hs.extBut _ _ h2 (N p h1).1, (N p h1).2⟩
end
end Mine
-- Inv
set_option maxRecDepth 100000
namespace Mine
open PySem PySem.Spec PySem.Calls PyProof.Rows PyProof.Rows.LCg PySem.W

def Above (led rest : List (Addr × Obj)) : Prop := (∀ p ∈ led, p ∈ rest) ∧ ∀ p ∈ rest, p ∈ led ∨ ∀ q ∈ led, q.1 < p.1
theorem Above.refl (led : List (Addr × Obj)) : Above led led := ⟨fun _ h => h, fun _ h => .inl h⟩
theorem Above.trans {a b c : List (Addr × Obj)} (h : Above a b) (h' : Above b c) : Above a c :=
  ⟨fun p hp => h'.1 p (h.1 p hp), fun p hp => (h'.2 p hp).elim (h.2 p) fun k => .inr fun q hq => k q (h.1 q hq)⟩
theorem Above.cons {a b : List (Addr × Obj)} {x : Addr} {o : Obj} (h : Above a b) (hx : ∀ q ∈ a, q.1 < x) : Above a ((x, o) :: b) :=
  ⟨fun p hp => List.mem_cons_of_mem _ (h.1 p hp), fun p hp => by
    rcases List.mem_cons.mp hp with rfl | hp
    · exact .inr hx
    · exact h.2 p hp⟩
theorem Above.app {a tl : List (Addr × Obj)} (ht : ∀ p ∈ tl, ∀ q ∈ a, q.1 < p.1) : Above a (tl ++ a) :=
  ⟨fun p hp => List.mem_append_right _ hp, fun p hp => (List.mem_append.mp hp).elim (fun h => .inr (ht p h)) .inl⟩
open Classical in
theorem Ext.of_above {led rest : List (Addr × Obj)} (h : Above led rest) : ∃ led', Ext led led' ∧ (∀ p ∈ led', p ∈ rest) ∧ ∀ p ∈ rest, p ∈ led' := by
  refine ⟨rest.filter (fun p => decide (∀ q ∈ led, q.1 < p.1)) ++ led, ⟨_, rfl, fun p hp => ?_⟩, fun p hp => ?_, fun p hp => ?_⟩
  · exact of_decide_eq_true (List.mem_filter.mp hp).2
  · rcases List.mem_append.mp hp with hp | hp
    · exact (List.mem_filter.mp hp).1
    · exact h.1 p hp
  · rcases h.2 p hp with hl | hl
    · exact List.mem_append_right _ hl
    · exact List.mem_append_left _ (List.mem_filter.mpr ⟨hp, decide_eq_true hl⟩)

/-- what the loops of solved_rows keep -/
def Inv (led : List (Addr × Obj)) (R C : Addr) (n : Nat) (M : Mat) (t : Rat) (m : Str → Option Value) (led₁ : List (Addr × Obj)) : Prop :=
  ∃ (rest : List (Addr × Obj)) (rs : List Value) (k : Nat) (oc : Obj) (v : Option Value) (T : Addr) (a b ts : Tok), led₁ = (R, { cls := .type "list", data := .seq rs.toArray k }) :: (C, oc) :: rest ∧ oc.data = .cell v ∧ OwnOff rest [R, C] ∧ Above led rest ∧ Rows rest rs M ∧
    (T, ({ cls := .type "tuple", data := .seq #[.int t.num a, .int (t.den : Nat) b] } : Obj)) ∈ rest ∧ m (Str.ofString "rows") = some (.ref R) ∧ m (Str.ofString "told") = some (.ref T) ∧ m (Str.ofString "size") = some (.int n ts)
open Classical in
noncomputable def keepOf (led l : List (Addr × Obj)) : List (Addr × Obj) := l.filter (fun p => decide (p ∈ led ∨ p.2.cls ≠ .type "range_iterator"))
theorem mem_keepOf {led l : List (Addr × Obj)} {p : Addr × Obj} : p ∈ keepOf led l ↔ p ∈ l ∧ (p ∈ led ∨ p.2.cls ≠ .type "range_iterator") := by
  classical
  unfold keepOf
  rw [List.mem_filter, decide_eq_true_eq]
theorem Cells.sub {led led' : List (Addr × Obj)} {cs : List Value} {qs : List Rat} (h : Cells led cs qs) (hs : ∀ p ∈ led, p.2.cls = .type "tuple" → p ∈ led') : Cells led' cs qs := by
  induction h with
  | nil => exact .nil
  | cons hm _ ih => exact .cons (hs _ hm rfl) ih
theorem Rows.sub {led led' : List (Addr × Obj)} {rs : List Value} {M : Mat} (h : Rows led rs M) (h1 : ∀ p ∈ led, p.2.cls = .type "tuple" → p ∈ led') (h2 : ∀ p ∈ led, p.2.cls = .type "list" → p ∈ led') : Rows led' rs M :=
  ⟨h.1, fun i v e => by
    obtain ⟨qs, g, r, k, cs, ev, hm, hc⟩ := h.2 i v e
    exact ⟨qs, g, r, k, cs, ev, h2 _ hm rfl, hc.sub h1⟩⟩

theorem Inv.close {h₀ h' : Heap} {L R C T : Addr} {led led₁ own rest rest9 : List (Addr × Obj)} {n : Nat} {M' : Mat} {t' : Rat} {rs' : List Value} {k' : Nat} {oc' : Obj} {v' : Option Value} {a b ts : Tok} {m' : Str → Option Value} {s₁ : Shared} {Q : Flow → Shared → Prop} {tk : Nat} {J' : (Str → Option Value) → List (Addr × Obj) → Prop}
    (hR : ∃ o, (R, o) ∈ led₁) (hC : ∃ o, (C, o) ∈ led₁) (hrest : ∀ p ∈ rest, p ∈ led₁) (hA : Above led rest) (sep : ∀ p ∈ led₁, ∀ q ∈ own, p.1 ≠ q.1) (hown : ∀ q ∈ own, q.2.cls = .type "range_iterator")
    (F : Fr h₀ L h' m') (N : News h₀ L h' ((R, { cls := .type "list", data := .seq rs'.toArray k' }) :: (C, oc') :: rest9)) (hcell : oc'.data = .cell v') (hoff : OwnOff rest9 [R, C]) (hA9 : Above (rest ++ own) rest9) (hrows : Rows rest9 rs' M')
    (hT : (T, ({ cls := .type "tuple", data := .seq #[.int t'.num a, .int (t'.den : Nat) b] } : Obj)) ∈ rest9) (e1 : m' (Str.ofString "rows") = some (.ref R)) (e2 : m' (Str.ofString "told") = some (.ref T)) (e3 : m' (Str.ofString "size") = some (.int n ts))
    (hJ : ∀ led₂, Inv led R C n M' t' m' led₂ → J' m' led₂) : ForOut h₀ L own led₁ J' s₁ Q .next { s₁ with heap := h', toks := tk } := by
  have hin : ∀ p ∈ rest9, p.2.cls ≠ .type "range_iterator" → p ∈ keepOf led rest9 := fun p hp hc => mem_keepOf.mpr ⟨hp, .inr hc⟩
  refine ⟨h', tk, m', (R, { cls := .type "list", data := .seq rs'.toArray k' }) :: (C, oc') :: keepOf led rest9, rfl, F, fun p hp => ?_, fun p hp => ?_, hJ _ ⟨_, rs', k', oc', v', T, a, b, ts, rfl, hcell, fun p hp => hoff p (mem_keepOf.mp hp).1, ?_, ?_, hin _ hT (show Value.type "tuple" ≠ Value.type "range_iterator" by decide), e1, e2, e3⟩⟩
  · rcases List.mem_append.mp hp with hp | hp
    · exact N p (List.mem_cons_of_mem _ (List.mem_cons_of_mem _ (hA9.1 p (List.mem_append_right _ hp))))
    · rcases List.mem_cons.mp hp with rfl | hp
      · exact N _ List.mem_cons_self
      · rcases List.mem_cons.mp hp with rfl | hp
        · exact N _ (List.mem_cons_of_mem _ List.mem_cons_self)
        · exact N p (List.mem_cons_of_mem _ (List.mem_cons_of_mem _ (mem_keepOf.mp hp).1))
  · rcases List.mem_cons.mp hp with rfl | hp
    · exact .inl (let ⟨o, ho⟩ := hR; ⟨_, ho, rfl⟩)
    · rcases List.mem_cons.mp hp with rfl | hp
      · exact .inl (let ⟨o, ho⟩ := hC; ⟨_, ho, rfl⟩)
      · obtain ⟨h1, h2⟩ := mem_keepOf.mp hp
        rcases hA9.2 p h1 with h3 | h3
        · rcases List.mem_append.mp h3 with h3 | h3
          · exact .inl ⟨p, hrest p h3, rfl⟩
          · rcases h2 with h2 | h2
            · exact .inl ⟨p, hrest p (hA.1 p h2), rfl⟩
            · exact absurd (hown p h3) h2
        · exact .inr fun q hq => h3 q (List.mem_append_right _ hq)
  · refine ⟨fun p hp => mem_keepOf.mpr ⟨hA9.1 p (List.mem_append_left _ (hA.1 p hp)), .inl hp⟩, fun p hp => ?_⟩
    obtain ⟨h1, h2⟩ := mem_keepOf.mp hp
    rcases h2 with h2 | h2
    · exact .inl h2
    · rcases hA9.2 p h1 with h3 | h3
      · rcases List.mem_append.mp h3 with h3 | h3
        · exact hA.2 p h3
        · exact absurd (hown p h3) h2
      · exact .inr fun q hq => h3 q (List.mem_append_left _ (hA.1 q hq))
  · exact hrows.sub (fun p hp hc => hin p hp (by rw [hc]; decide)) fun p hp hc => hin p hp (by rw [hc]; decide)
theorem OwnOff.app {a b : List (Addr × Obj)} {l : List Addr} (h1 : OwnOff a l) (h2 : OwnOff b l) : OwnOff (a ++ b) l := fun p hp x hx => (List.mem_append.mp hp).elim (fun h => h1 p h x hx) fun h => h2 p h x hx
theorem mem_own2 {rest : List (Addr × Obj)} {R C : Addr} (h1 : ∀ p ∈ rest, p.1 ≠ R) (h2 : ∀ p ∈ rest, p.1 ≠ C) : OwnOff rest [R, C] := fun p hp x hx => by
  rcases List.mem_cons.mp hx with rfl | hx
  · exact h1 p hp
  · rw [List.mem_singleton.mp hx]; exact h2 p hp
theorem fr_known4 {h₀ h : Heap} {L : Addr} {m : Str → Option Value} {a b c d : Str} {va vb vc vd : Value} (F : Fr h₀ L h m) (ea : m a = some va) (eb : m b = some vb) (ec : m c = some vc) (ed : m d = some vd) :
    Fr h₀ L h (fun z => if z = a then some va else if z = b then some vb else if z = c then some vc else if z = d then some vd else m z) := by
  have : (fun z => if z = a then some va else if z = b then some vb else if z = c then some vc else if z = d then some vd else m z) = m := by
    funext z
    by_cases h1 : z = a
    · subst h1; simp [ea]
    · by_cases h2 : z = b
      · subst h2; simp [h1, eb]
      · by_cases h3 : z = c
        · subst h3; simp [h1, h2, ec]
        · by_cases h4 : z = d
          · subst h4; simp [h1, h2, h3, ed]
          · simp [h1, h2, h3, h4]
  rw [this]; exact F
def JoinOut (P : Shared → Prop) (f : Flow) (s : Shared) : Prop := f = .next ∧ P s
theorem If_join {M : Model} {A : Around} {E : Value → Shared → Prop} {Q : Flow → Shared → Prop} {s : Shared} {test : Expr} {body orelse : List Stmt} {pos : Pos} {env : Env} (P : Shared → Prop) (h : wpAny M A (exec (.If test body orelse pos) env) (JoinOut P) E s) (k : ∀ s', P s' → Q .next s') :
    wpAny M A (exec (.If test body orelse pos) env) Q E s := wpAny_mono h (by rintro _ _ ⟨rfl, p⟩; exact k _ p) (fun _ _ e => e)
end Mine
-- Dec
set_option maxRecDepth 100000
namespace Mine
open PySem PySem.Spec PySem.Calls PyProof.Rows PyProof.Rows.LCg PySem.W PySem.Builtin.Int

/-- how many figures a number has -/
def IsFig (n : Nat) (F : Int) : Prop := 1 ≤ F ∧ n < 10 ^ F.toNat ∧ (F = 1 ∨ 10 ^ (F.toNat - 1) ≤ n)
def FigInv (n : Nat) (x y : Int) : Prop := 1 ≤ x ∧ y = 10 ^ x.toNat ∧ (x = 1 ∨ 10 ^ (x.toNat - 1) ≤ n)
theorem fig_start (n : Nat) : FigInv n 1 10 := ⟨by decide, by decide, .inl rfl⟩
theorem fig_turn {n : Nat} {x y : Int} (h : FigInv n x y) (hy : y ≤ (n : Int)) : FigInv n (x + 1) (y * 10) := by
  obtain ⟨h1, h2, h3⟩ := h
  obtain ⟨k, rfl⟩ : ∃ k : Nat, x = (k : Int) := ⟨x.toNat, (Int.toNat_of_nonneg (Int.le_trans (by decide) h1)).symm⟩
  have e : ((k : Int) + 1).toNat = k + 1 := rfl
  refine ⟨Int.le_add_of_nonneg_left (Int.natCast_nonneg k), ?_, .inr ?_⟩
  · rw [e, h2, Int.toNat_natCast, Int.pow_succ]
  · rw [e, Nat.add_sub_cancel]
    rw [h2, Int.toNat_natCast] at hy
    exact_mod_cast hy
theorem fig_less {n : Nat} {x y : Int} (h : FigInv n x y) (hy : y ≤ (n : Int)) : ((n : Int) + 1 - y * 10).toNat < ((n : Int) + 1 - y).toNat := by
  have : 0 < y := by rw [h.2.1]; exact Int.pow_pos (by decide)
  lia
theorem fig_end {n : Nat} {x y : Int} (h : FigInv n x y) (hy : ¬ y ≤ (n : Int)) : IsFig n x := by
  obtain ⟨h1, h2, h3⟩ := h
  refine ⟨h1, ?_, h3⟩
  rw [h2] at hy
  have : (n : Int) < ((10 ^ x.toNat : Nat) : Int) := by push_cast; exact Int.not_le.mp hy
  exact_mod_cast this
theorem fig_unique {n : Nat} {F G : Int} (h : IsFig n F) (h' : IsFig n G) : F = G := by
  have key : ∀ {F G : Int}, IsFig n F → IsFig n G → ¬ F < G := by
    intro F G ⟨h1, h2, _⟩ ⟨g1, g2, g3⟩ hlt
    have g3 : 10 ^ (G.toNat - 1) ≤ n := by rcases g3 with g3 | g3; exact absurd hlt (by rw [g3]; exact Int.not_lt.mpr h1); exact g3
    have : 10 ^ F.toNat ≤ 10 ^ (G.toNat - 1) := Nat.pow_le_pow_right (by decide) (Nat.le_sub_one_of_lt ((Int.toNat_lt_toNat (Int.lt_of_lt_of_le (by decide) g1)).mpr hlt))
    exact Nat.lt_irrefl _ (Nat.lt_of_lt_of_le h2 (Nat.le_trans this g3))
  exact Int.le_antisymm (Int.not_lt.mp (key h' h)) (Int.not_lt.mp (key h h'))
theorem fig_shift {d : Nat} {f : Int} (h : IsFig d f) (hd : 1 ≤ d) (j : Nat) : IsFig (d * 10 ^ j) (f + j) := by
  obtain ⟨h1, h2, h3⟩ := h
  obtain ⟨k, rfl⟩ : ∃ k : Nat, f = (k : Int) + 1 := ⟨(f - 1).toNat, by rw [Int.toNat_of_nonneg (Int.sub_nonneg_of_le h1), Int.sub_add_cancel]⟩
  have e : ((k : Int) + 1).toNat = k + 1 := rfl
  have e2 : ((k : Int) + 1 + j).toNat = k + 1 + j := rfl
  rw [e] at h2 h3
  have h3 : 10 ^ k ≤ d := by
    rcases h3 with h3 | h3
    · rw [show k = 0 from Nat.succ.inj (Int.ofNat.inj h3)]; exact hd
    · exact h3
  refine ⟨Int.le_trans h1 (Int.le_add_of_nonneg_right (Int.natCast_nonneg j)), ?_, .inr ?_⟩
  · rw [e2, Nat.pow_add]; exact Nat.mul_lt_mul_of_pos_right h2 (Nat.pow_pos (by decide))
  · rw [e2, Nat.add_right_comm, Nat.add_sub_cancel, Nat.pow_add]; exact Nat.mul_le_mul_right _ h3
theorem fig_le {n k : Nat} {F : Int} (h : IsFig n F) (hn : n < 10 ^ k) (hk : 1 ≤ k) : F ≤ k := by
  obtain ⟨h1, h2, h3⟩ := h
  rcases h3 with h3 | h3
  · rw [h3]; exact Int.ofNat_le.mpr hk
  · have : 10 ^ (F.toNat - 1) < 10 ^ k := Nat.lt_of_le_of_lt h3 hn
    exact Int.toNat_le.mp (Nat.le_of_pred_lt ((Nat.pow_lt_pow_iff_right (by decide : 1 < 10)).mp this))
theorem fig_zero : IsFig 0 1 := ⟨by decide, by decide, .inl rfl⟩
theorem fig_one : IsFig 1 1 := ⟨by decide, by decide, .inl rfl⟩
/-- the loop that takes the noughts off -/
def Strip (m : Nat) (e : Int) (x y : Int) : Prop := ∃ k a : Nat, x = (a : Int) ∧ 1 ≤ a ∧ a * 10 ^ k = m ∧ y = e + k
theorem strip_start {m : Nat} {e : Int} (h : 1 ≤ m) : Strip m e m e := ⟨0, m, rfl, h, by simp, by simp⟩
theorem strip_turn {m : Nat} {e x y : Int} (h : Strip m e x y) (hx : x.fmod 10 = 0) : Strip m e (x.fdiv 10) (y + 1) := by
  obtain ⟨k, a, rfl, ha, hm, rfl⟩ := h
  have h1 : ((a : Int)).fmod 10 = ((a % 10 : Nat) : Int) := by rw [Int.fmod_eq_emod_of_nonneg _ (by decide)]; rfl
  have h2 : ((a : Int)).fdiv 10 = ((a / 10 : Nat) : Int) := by rw [Int.fdiv_eq_ediv_of_nonneg _ (by decide)]; rfl
  rw [h1] at hx
  have hd := Nat.dvd_of_mod_eq_zero (Int.natCast_eq_zero.mp hx)
  refine ⟨k + 1, a / 10, h2, Nat.div_pos (Nat.le_of_dvd ha hd) (by decide), ?_, Int.add_assoc ..⟩
  rw [Nat.pow_succ, Nat.mul_comm (10 ^ k), ← Nat.mul_assoc, Nat.div_mul_cancel hd, hm]
theorem strip_less {m : Nat} {e x y : Int} (h : Strip m e x y) : (x.fdiv 10).toNat < x.toNat := by
  obtain ⟨k, a, rfl, ha, hm, rfl⟩ := h
  rw [Int.fdiv_eq_ediv_of_nonneg _ (by decide)]
  exact Nat.div_lt_self ha (by decide)
/-- what is left behind the stripping of d * 10 ^ (9 - f) -/
theorem strip_end {d j : Nat} {e x y : Int} (h : Strip (d * 10 ^ j) e x y) (he : e = -(j : Int)) (hx : x.fmod 10 ≠ 0) (hd : 1 ≤ d) (hlt : d * 10 ^ j < 10 ^ 9) : ∃ a i : Nat, x = (a : Int) ∧ y = (i : Int) ∧ a * 10 ^ i = d ∧ 1 ≤ a ∧ a < 10 ^ 9 ∧ i ≤ 9 := by
  obtain ⟨k, a, rfl, ha, hm, rfl⟩ := h
  have h1 : ((a : Int)).fmod 10 = ((a % 10 : Nat) : Int) := by rw [Int.fmod_eq_emod_of_nonneg _ (by decide)]; rfl
  rw [h1] at hx
  have hp : ∀ i : Nat, 1 ≤ 10 ^ i := fun i => Nat.pow_pos (by decide)
  have hkj : j ≤ k := by
    apply Decidable.byContradiction
    intro hc
    obtain ⟨i, rfl⟩ : ∃ i, j = k + (i + 1) := Nat.exists_eq_add_of_lt (Nat.not_le.mp hc)
    rw [Nat.pow_add, ← Nat.mul_assoc, Nat.mul_right_comm] at hm
    have := Nat.eq_of_mul_eq_mul_right (hp k) hm
    rw [Nat.pow_succ, ← Nat.mul_assoc] at this
    rw [this, Nat.mul_mod_left] at hx
    exact hx rfl
  obtain ⟨i, rfl⟩ : ∃ i, k = j + i := Nat.exists_eq_add_of_le hkj
  rw [Nat.pow_add, Nat.mul_comm (10 ^ j), ← Nat.mul_assoc] at hm
  have hd' := Nat.eq_of_mul_eq_mul_right (hp j) hm
  have hlt' : a * 10 ^ i < 10 ^ 9 := by
    rw [hd']
    exact Nat.lt_of_le_of_lt (Nat.le_mul_of_pos_right _ (hp j)) hlt
  refine ⟨a, i, rfl, by rw [he, Int.natCast_add, Int.neg_add_cancel_left], hd', ha, Nat.lt_of_le_of_lt (Nat.le_mul_of_pos_right _ (hp i)) hlt', ?_⟩
  have : 10 ^ i < 10 ^ 9 := Nat.lt_of_le_of_lt (Nat.le_mul_of_pos_left _ ha) hlt'
  have := (Nat.pow_lt_pow_iff_right (by decide : 1 < 10)).mp this
  lia
theorem cut_div {b p : Nat} : ((b * 10 ^ p : Nat) : Int).fdiv (10 ^ p) = (b : Int) := by
  rw [Int.natCast_mul, Int.natCast_pow]
  exact Int.mul_fdiv_cancel _ (by have : (0 : Int) < 10 ^ p := Int.pow_pos (by decide); exact Int.ne_of_gt this)
theorem cut_mod {b p : Nat} : ((b * 10 ^ p : Nat) : Int).fmod (10 ^ p) = 0 := by
  rw [Int.natCast_mul, Int.natCast_pow]
  exact Int.mul_fmod_left _ _
end Mine
namespace Mine
theorem fig_above {b p : Nat} {F : Int} (hb : 1 ≤ b) (h : IsFig (b * 10 ^ p) F) : (p : Int) < F := by
  obtain ⟨h1, h2, _⟩ := h
  have h3 : 10 ^ p < 10 ^ F.toNat := Nat.lt_of_le_of_lt (Nat.le_mul_of_pos_left _ hb) h2
  exact Int.lt_toNat.mp ((Nat.pow_lt_pow_iff_right (by decide : 1 < 10)).mp h3)
theorem log_ten {p : Nat} (hp : p ≤ 50) : ((10 : Int) ^ p).natAbs.log2 < 9000 := by
  rw [Int.natAbs_pow]
  have h1 : 10 ^ p ≤ 10 ^ 50 := Nat.pow_le_pow_right (by decide) hp
  have h0 : (10 : Int).natAbs ^ p = 10 ^ p := rfl
  rw [h0]
  have h2 : 10 ^ p < 2 ^ 9000 := Nat.lt_of_le_of_lt h1 (by
    have : (10 : Nat) ^ 50 < 2 ^ 200 := by decide
    exact Nat.lt_of_lt_of_le this (Nat.pow_le_pow_right (by decide) (by decide)))
  exact (Nat.log2_lt (Nat.pos_iff_ne_zero.mp (Nat.pow_pos (by decide)))).mpr h2
end Mine
namespace Mine
theorem strip_start' {m : Nat} {e y : Int} (h : 1 ≤ m) (hy : y = e) : Strip m e m y := by rw [hy]; exact strip_start h
end Mine
namespace Mine
open PySem PySem.Spec PySem.Calls PyProof.Rows PyProof.Rows.LCg PySem.W
theorem News.keep1 {h₀ h : Heap} {L x y : Addr} {o o' : Obj} {led : List (Addr × Obj)} (N : News h₀ L h ((x, o) :: (y, o') :: led)) : News h₀ L h ((x, o) :: led) := fun p hp => by
  rcases List.mem_cons.mp hp with rfl | hp
  · exact N _ List.mem_cons_self
  · exact N p (List.mem_cons_of_mem _ (List.mem_cons_of_mem _ hp))
end Mine
namespace Mine
open PySem
theorem abs_bits {d : Int} (h : d.natAbs < 10 ^ 9) : Builtin.Int.intBits (if d < 0 then -d else d) ≤ 64 := by
  split
  · exact bits9 (by rw [Int.natAbs_neg]; exact h)
  · exact bits9 h
end Mine
namespace Mine
open PySem
theorem abs_toNat (d : Int) : (if d < 0 then -d else d).toNat = d.natAbs := by
  split
  · exact nat_neg (by assumption)
  · exact nat_id (by assumption)
theorem fdiv_one' (a : Int) : a.fdiv 1 = a := by rw [Int.fdiv_eq_ediv_of_nonneg _ (by decide)]; exact Int.ediv_one a
theorem dec_c {d f : Int} (hf : IsFig (if d < 0 then -d else d).toNat f) (h8 : f ≤ 9) : (10 * ((if d < 0 then -d else d) * 10 ^ (9 + 3 + 1 - f).toNat).fdiv 1 + 0).natAbs = d.natAbs * 10 ^ (9 - f).toNat * 10 ^ 5 := by
  have h1 := hf.1
  rw [fdiv_one', Int.add_zero, Int.natAbs_mul, Int.natAbs_mul, Int.natAbs_pow, show (9 + 3 + 1 - f).toNat = (9 - f).toNat + 4 by lia]
  have e1 : (if d < 0 then -d else d).natAbs = d.natAbs := by
    split
    · exact Int.natAbs_neg d
    · rfl
  rw [e1]
  show 10 * (d.natAbs * 10 ^ ((9 - f).toNat + 4)) = _
  rw [Nat.pow_add, ← Nat.mul_assoc d.natAbs]
  exact (Nat.mul_comm 10 _).trans (Nat.mul_assoc _ _ 10)
theorem dec_cn {d f : Int} (hf : IsFig (if d < 0 then -d else d).toNat f) (h8 : f ≤ 9) : (-(10 * ((if d < 0 then -d else d) * 10 ^ (9 + 3 + 1 - f).toNat).fdiv 1 + 0)).natAbs = d.natAbs * 10 ^ (9 - f).toNat * 10 ^ 5 := by
  rw [Int.natAbs_neg]; exact dec_c hf h8
theorem dec_fig {d f : Int} (hf : IsFig (if d < 0 then -d else d).toNat f) (h8 : f ≤ 9) (hd : d ≠ 0) : IsFig (d.natAbs * 10 ^ (9 - f).toNat) 9 := by
  rw [abs_toNat] at hf
  have := fig_shift hf (pos_abs hd) (9 - f).toNat
  rwa [show f + ((9 - f).toNat : Int) = 9 by lia] at this
theorem dec_pos {d f : Int} : 0 ≤ (10 * ((if d < 0 then -d else d) * 10 ^ (9 + 3 + 1 - f).toNat).fdiv 1 + 0) := by
  rw [fdiv_one', Int.add_zero]
  have h1 := abs_nn d
  have h2 : (0 : Int) < 10 ^ (9 + 3 + 1 - f).toNat := Int.pow_pos (by decide)
  exact Int.mul_nonneg (by decide) (Int.mul_nonneg h1 (Int.le_of_lt h2))
theorem dec_end {c d : Int} {a i : Nat} (h : c.natAbs = 0 → d = 0) (hp : d < 0 → c ≤ 0) (hq : ¬ d < 0 → 0 ≤ c) (ha : a * 10 ^ i = d.natAbs) : (if c < 0 then -((a : Nat) : Int) else (a : Int)) * 10 ^ i = d := by
  have e : ((a : Nat) : Int) * 10 ^ i = (d.natAbs : Int) := by rw [← ha]; push_cast; rfl
  split
  · rw [Int.neg_mul, e]
    by_cases hd : d < 0
    · rw [abs_neg hd, Int.neg_neg]
    · exact absurd (hq hd) (Int.not_le.mpr (by assumption))
  · rw [e]
    by_cases hd : d < 0
    · exact absurd (h (by rw [Int.le_antisymm (hp hd) (Int.not_lt.mp (by assumption))]; rfl)) (Int.ne_of_lt hd)
    · exact abs_id hd
theorem dec_nz {c d f : Int} (h : c.natAbs = d.natAbs * 10 ^ (9 - f).toNat * 10 ^ 5) : c.natAbs = 0 → d = 0 := fun e => by
  rw [e] at h
  have h1 : 0 < 10 ^ (9 - f).toNat := Nat.pow_pos (by decide)
  rcases Nat.eq_zero_or_pos d.natAbs with h2 | h2
  · exact Int.natAbs_eq_zero.mp h2
  · exact absurd h (Nat.ne_of_lt (Nat.mul_pos (Nat.mul_pos h2 h1) (by decide)))
end Mine
-- Grid
set_option maxRecDepth 100000
namespace Mine
open PySem PySem.Spec PySem.Calls PyProof.Rows PyProof.Rows.LCg PySem.W
/-- values that are ints -/
inductive Ints : List Value → List Int → Prop
  | nil : Ints [] []
  | cons {z : Int} {t : Tok} {cs : List Value} {zs : List Int} : Ints cs zs → Ints (.int z t :: cs) (z :: zs)
theorem Ints.length {cs : List Value} {zs : List Int} (h : Ints cs zs) : cs.length = zs.length := by
  induction h with
  | nil => rfl
  | cons _ ih => simp [ih]
theorem Ints.get {cs : List Value} {zs : List Int} (h : Ints cs zs) : ∀ {i : Nat} {v : Value}, cs[i]? = some v → ∃ z t, v = .int z t ∧ zs[i]? = some z := by
  induction h with
  | nil => intro i v e; cases e
  | @cons z t cs zs _ ih =>
    intro i v e
    cases i with
    | zero => cases e; exact ⟨z, t, rfl, rfl⟩
    | succ i => exact ih e
theorem Ints.at {cs : List Value} {zs : List Int} (h : Ints cs zs) : ∀ {i : Nat} {z : Int}, zs[i]? = some z → ∃ t, cs[i]? = some (.int z t) := by
  induction h with
  | nil => intro i v e; cases e
  | @cons z t cs zs _ ih =>
    intro i v e
    cases i with
    | zero => cases e; exact ⟨t, rfl⟩
    | succ i => exact ih e
theorem Ints.snoc {cs : List Value} {zs : List Int} {z : Int} {t : Tok} (h : Ints cs zs) : Ints (cs ++ [.int z t]) (zs ++ [z]) := by
  induction h with
  | nil => exact .cons .nil
  | cons _ ih => exact .cons ih
def IntRow (led : List (Addr × Obj)) (v : Value) (zs : List Int) : Prop := ∃ r k cs, v = .ref r ∧ (r, ({ cls := .type "list", data := .seq (List.toArray cs) k } : Obj)) ∈ led ∧ Ints cs zs
theorem IntRow.mono {led led' : List (Addr × Obj)} {v : Value} {zs : List Int} (h : IntRow led v zs) (hs : ∀ p ∈ led, p ∈ led') : IntRow led' v zs := by
  obtain ⟨r, k, cs, e, hm, hc⟩ := h
  exact ⟨r, k, cs, e, hs _ hm, hc⟩
inductive IntRows (led : List (Addr × Obj)) : List Value → List (List Int) → Prop
  | nil : IntRows led [] []
  | cons {v : Value} {zs : List Int} {vs : List Value} {M : List (List Int)} : IntRow led v zs → IntRows led vs M → IntRows led (v :: vs) (zs :: M)
theorem IntRows.mono {led led' : List (Addr × Obj)} {vs : List Value} {M : List (List Int)} (h : IntRows led vs M) (hs : ∀ p ∈ led, p ∈ led') : IntRows led' vs M := by
  induction h with
  | nil => exact .nil
  | cons h _ ih => exact .cons (h.mono hs) ih
theorem IntRows.length {led : List (Addr × Obj)} {vs : List Value} {M : List (List Int)} (h : IntRows led vs M) : vs.length = M.length := by
  induction h with
  | nil => rfl
  | cons _ _ ih => simp [ih]
theorem IntRows.get {led : List (Addr × Obj)} {vs : List Value} {M : List (List Int)} (h : IntRows led vs M) : ∀ {i : Nat} {v : Value}, vs[i]? = some v → ∃ zs, M[i]? = some zs ∧ IntRow led v zs := by
  induction h with
  | nil => intro i v e; cases e
  | cons h _ ih =>
    intro i v e
    cases i with
    | zero => cases e; exact ⟨_, rfl, h⟩
    | succ i => exact ih e
theorem IntRows.at {led : List (Addr × Obj)} {vs : List Value} {M : List (List Int)} (h : IntRows led vs M) : ∀ {i : Nat} {zs : List Int}, M[i]? = some zs → ∃ v, vs[i]? = some v ∧ IntRow led v zs := by
  induction h with
  | nil => intro i v e; cases e
  | cons h _ ih =>
    intro i v e
    cases i with
    | zero => cases e; exact ⟨_, rfl, h⟩
    | succ i => exact ih e
theorem IntRows.snoc {led : List (Addr × Obj)} {vs : List Value} {M : List (List Int)} {v : Value} {zs : List Int} (h : IntRows led vs M) (h' : IntRow led v zs) : IntRows led (vs ++ [v]) (M ++ [zs]) := by
  induction h with
  | nil => exact .cons h' .nil
  | cons h _ ih => exact .cons h ih
/-- the same as rows of fractions -/
inductive RowsI (led : List (Addr × Obj)) : List Value → Mat → Prop
  | nil : RowsI led [] []
  | cons {v : Value} {qs : List Rat} {vs : List Value} {M : Mat} : RowIn led v qs → RowsI led vs M → RowsI led (v :: vs) (qs :: M)
theorem RowsI.mono {led led' : List (Addr × Obj)} {vs : List Value} {M : Mat} (h : RowsI led vs M) (hs : ∀ p ∈ led, p ∈ led') : RowsI led' vs M := by
  induction h with
  | nil => exact .nil
  | cons h _ ih => exact .cons (h.mono hs) ih
theorem RowsI.snoc {led : List (Addr × Obj)} {vs : List Value} {M : Mat} {v : Value} {qs : List Rat} (h : RowsI led vs M) (h' : RowIn led v qs) : RowsI led (vs ++ [v]) (M ++ [qs]) := by
  induction h with
  | nil => exact .cons h' .nil
  | cons h _ ih => exact .cons h ih
theorem RowsI.rows {led : List (Addr × Obj)} {vs : List Value} {M : Mat} (h : RowsI led vs M) : Rows led vs M := by
  constructor
  · induction h with
    | nil => rfl
    | cons _ _ ih => simp [ih]
  · induction h with
    | nil => intro i v e; cases e
    | cons h _ ih =>
      intro i v e
      cases i with
      | zero => cases e; exact ⟨_, rfl, h⟩
      | succ i => exact ih i v e
noncomputable def ratM (M : List (List Int)) : Mat := M.map fun zs => zs.map fun z => ((z : Int) : Rat)
theorem take_map_succ' {α β : Type} {f : α → β} {ps : List α} {i : Nat} {p : α} (hp : ps[i]? = some p) : (ps.take (i + 1)).map f = (ps.take i).map f ++ [f p] := by
  rw [List.take_add_one, hp, List.map_append]; rfl
theorem ratM_wide {n w : Nat} {M : List (List Int)} (h1 : M.length = n) (h2 : ∀ zs ∈ M, zs.length = w) : Wide n w (ratM M) := by
  refine ⟨by unfold ratM; rw [List.length_map, h1], fun qs hq => ?_⟩
  obtain ⟨zs, hz, rfl⟩ := List.mem_map.mp hq
  rw [List.length_map, h2 zs hz]
theorem ratM_bits {k : Nat} {M : List (List Int)} (hk : 1 ≤ k) (h : ∀ zs ∈ M, ∀ z ∈ zs, z.natAbs < 2 ^ k) : Mbits k (ratM M) := by
  intro qs hq q hm
  obtain ⟨zs, hz, rfl⟩ := List.mem_map.mp hq
  obtain ⟨z, hz', rfl⟩ := List.mem_map.mp hm
  exact ⟨PySem.intBits_le_iff.mpr (h zs hz z hz'), Nat.le_trans (show Builtin.Int.intBits ((1 : Nat) : Int) ≤ 1 by decide) hk⟩
end Mine
namespace Mine
open PySem PySem.Spec PySem.Calls PyProof.Rows PyProof.Rows.LCg PySem.W
theorem compOut_many {h₀ : Heap} {L : Addr} {m : Str → Option Value} {s₁ : Shared} {own led₁ tl : List (Addr × Obj)} {J : Value → List (Addr × Obj) → Prop} {h' : Heap} {tk : Nat} {v : Value}
    (F : Fr h₀ L h' m) (N : News h₀ L h' (tl ++ (own ++ led₁))) (ht : ∀ p ∈ tl, ∀ q ∈ own, q.1 < p.1) (hJ : J v (tl ++ led₁)) : CompOut h₀ L m s₁ own led₁ J v { s₁ with heap := h', toks := tk } := by
  refine ⟨h', tk, tl ++ led₁, rfl, F, fun p hp => N p ?_, fun p hp => ?_, hJ⟩
  · simp only [List.mem_append] at hp ⊢
    rcases hp with h | h | h
    · exact .inr (.inl h)
    · exact .inl h
    · exact .inr (.inr h)
  · rcases List.mem_append.mp hp with hp | hp
    · exact .inr (ht p hp)
    · exact .inl ⟨p, hp, rfl⟩
end Mine
namespace Mine
open PySem PySem.Spec PySem.Calls PyProof.Rows PyProof.Rows.LCg PySem.W
theorem allLt_drop {y : Addr} {b : List (Addr × Obj)} : ∀ {a : List (Addr × Obj)}, AllLt y (a ++ b) → AllLt y b
  | [], h => h
  | p :: a, h => allLt_drop (a := a) h.2
end Mine
-- Law1
set_option maxRecDepth 100000
namespace Mine
end Mine
-- ForZip
set_option maxHeartbeats 4000000
set_option maxRecDepth 100000
namespace Mine
open PySem PySem.Spec PySem.Calls PyProof.Rows PyProof.Rows.LCg PySem.W
section
variable {prog : Program} {w : World} {A : Around} {E : Value → Shared → Prop} {s : Shared} {h₀ : Heap} {env : Env} {target : Expr} {body : List Stmt} {Q : Flow → Shared → Prop} {m : Str → Option Value} {led : List (Addr × Obj)}
theorem hid9 {G : Prop} (h : ∀ H : Prop, (G → H) → H) : G := h G id
def IterF2 (prog : Program) (w : World) (A : Around) (E : Value → Shared → Prop) (h₀ : Heap) (env : Env) (target : Expr) (body : List Stmt) (Q : Flow → Shared → Prop) (xv : Value) (s₁ : Shared) : Prop :=
  wpAny (model prog w) A (pyIter xv) (fun it s₂ => TurnsAt prog w A h₀ env target body Q E it s₂) E s₁
theorem ForF2 {iter : Expr} {pos : Pos} (F : Fr h₀ env.locals s.heap m)
    (hE : PassesOwn (model prog w) A env E)
    (h : wpAny (model prog w) A (eval iter env) (IterF2 prog w A E h₀ env target body Q) E s)
    (hs : ∀ x, foldedSetIterable iter env x = pure x) :
    wpAny (model prog w) A (exec (.For target iter body [] pos) env) Q E s := For_turns F h hs hE
end
end Mine
-- Det2
set_option maxRecDepth 100000
namespace Mine
theorem clear_no {c o : Nat} {M : Mat} {ps qs : List Rat} (ho : o ≠ c) (hp : M[o]? = some ps) (hq : M[c]? = some qs) (hl : ps.length = qs.length) :
    clearOne c M o = M.set o (List.zipWith (fun p q => p - cellM M o c * q) ps qs) := by
  have e1 : M.getD o [] = ps := by rw [List.getD_eq_getElem?_getD, hp]; rfl
  have e2 : M.getD c [] = qs := by rw [List.getD_eq_getElem?_getD, hq]; rfl
  unfold clearOne
  by_cases h : cellM M o c = 0
  · rw [if_neg (fun h' => h'.2 h), h]
    have e : List.zipWith (fun p q => p - 0 * q) ps qs = ps := by
      apply List.ext_getElem
      · rw [List.length_zipWith, hl, Nat.min_self]
      · intro i h1 h2
        rw [List.getElem_zipWith]
        grind
    rw [e]
    obtain ⟨hlt, rfl⟩ := List.getElem?_eq_some_iff.mp hp
    exact (List.set_getElem_self hlt).symm
  · rw [if_pos ⟨ho, h⟩, e1, e2]
theorem clear_own {c : Nat} {M : Mat} : clearOne c M c = M := if_neg (fun h => h.1 rfl)
theorem two_first {a b c d t : Rat} (ha : a ≠ 0) : turnM 2 0 [[a, b], [c, d]] t = some ([[1, b / a], [0, d - c * (b / a)]], t * a) := by
  have e0 : pivotIn [[a, b], [c, d]] 0 2 0 = some 0 := by simp [pivotIn, ha]
  unfold turnM
  simp only [List.length_cons, List.length_nil, Nat.zero_add, Nat.sub_zero, e0, if_true]
  simp only [clearTo, normM, cellM, List.getD_cons_zero, List.map, List.set_cons_zero]
  rw [clear_own, clear_no (c := 0) (o := 1) (ps := [c, d]) (qs := [a / a, b / a]) (by decide) rfl rfl rfl]
  have ea : a / a = 1 := by grind
  simp [cellM, List.zipWith, ea]
  grind
theorem two_last {b e t : Rat} : (solveM 2 1 1 [[1, b], [0, e]] t).2 = t * e := by
  by_cases he : e = 0
  · subst he
    have e0 : pivotIn [[1, b], [0, 0]] 1 1 1 = none := by simp [pivotIn]
    unfold solveM turnM
    simp only [List.length_cons, List.length_nil, Nat.zero_add, Nat.reduceAdd, Nat.reduceSub, e0]
    grind
  · have e0 : pivotIn [[1, b], [0, e]] 1 1 1 = some 1 := by simp [pivotIn, he]
    unfold solveM turnM
    simp only [List.length_cons, List.length_nil, Nat.zero_add, Nat.reduceAdd, Nat.reduceSub, e0, if_true]
    unfold solveM
    rfl
theorem det2 (a b c d : Rat) : (solveM 2 2 0 [[a, b], [c, d]] 1).2 = a * d - b * c := by
  unfold solveM
  by_cases ha : a = 0
  · by_cases hc : c = 0
    · have e0 : pivotIn [[a, b], [c, d]] 0 2 0 = none := by simp [pivotIn, ha, hc]
      unfold turnM
      simp only [List.length_cons, List.length_nil, Nat.zero_add, Nat.sub_zero, e0]
      grind
    · have e0 : pivotIn [[a, b], [c, d]] 0 2 0 = some 1 := by simp [pivotIn, ha, hc]
      have e1 : turnM 2 0 [[a, b], [c, d]] 1 = turnM 2 0 [[c, d], [a, b]] (-1) := by
        have e2 : pivotIn [[c, d], [a, b]] 0 2 0 = some 0 := by simp [pivotIn, hc]
        unfold turnM
        simp only [List.length_cons, List.length_nil, Nat.zero_add, Nat.sub_zero, e0, e2]
        rfl
      rw [e1, two_first hc]
      simp only
      rw [two_last]
      grind
  · rw [two_first ha]
    simp only
    rw [two_last]
    grind
theorem det2_int (a b c d : Int) : (solveM 2 2 0 (ratM [[a, b], [c, d]]) 1).2 = ((a * d - b * c : Int) : Rat) := by
  show (solveM 2 2 0 [[(a : Rat), (b : Rat)], [(c : Rat), (d : Rat)]] 1).2 = _
  rw [det2]
  push_cast
  rfl
end Mine
-- Chain
set_option maxRecDepth 100000
namespace Mine
open PySem PySem.Spec PySem.Calls PyProof.Rows PyProof.Rows.LCg PySem.W
end Mine
namespace Mine
open PySem PySem.Spec PySem.Calls PyProof.Rows PyProof.Rows.LCg PySem.W
end Mine
namespace Mine
open PySem
theorem dec_bits {c D : Int} {i : Nat} (h : c * 10 ^ i = D) (hD : D.natAbs < 10 ^ 9) : Builtin.Int.intBits c ≤ 64 := by
  have h1 : c.natAbs * 10 ^ i = D.natAbs := by rw [← h, Int.natAbs_mul, Int.natAbs_pow]; rfl
  have h2 : c.natAbs ≤ D.natAbs := by rw [← h1]; exact Nat.le_mul_of_pos_right _ (Nat.pow_pos (by decide))
  exact bits9 (Nat.lt_of_le_of_lt h2 hD)
end Mine
namespace Mine
end Mine
-- Two
set_option maxRecDepth 100000
namespace Mine
open PySem PySem.Spec PySem.Calls PyProof.Rows PyProof.Rows.LCg PySem.W
end Mine
namespace Mine
open PySem PySem.Spec PySem.Calls PyProof.Rows PyProof.Rows.LCg PySem.W
theorem fr_known5 {h₀ h : Heap} {L : Addr} {m : Str → Option Value} {a b c d e : Str} {va vb vc vd ve : Value} (F : Fr h₀ L h m) (ea : m a = some va) (eb : m b = some vb) (ec : m c = some vc) (ed : m d = some vd) (ee : m e = some ve) :
    Fr h₀ L h (fun z => if z = a then some va else if z = b then some vb else if z = c then some vc else if z = d then some vd else if z = e then some ve else m z) := by
  have : (fun z => if z = a then some va else if z = b then some vb else if z = c then some vc else if z = d then some vd else if z = e then some ve else m z) = m := by
    funext z
    by_cases h1 : z = a
    · subst h1; simp [ea]
    · by_cases h2 : z = b
      · subst h2; simp [h1, eb]
      · by_cases h3 : z = c
        · subst h3; simp [h1, h2, ec]
        · by_cases h4 : z = d
          · subst h4; simp [h1, h2, h3, ed]
          · by_cases h5 : z = e
            · subst h5; simp [h1, h2, h3, h4, ee]
            · simp [h1, h2, h3, h4, h5]
  rw [this]; exact F
end Mine
-- CompC
set_option maxHeartbeats 4000000
set_option maxRecDepth 100000
namespace Mine
open PySem PySem.Spec PySem.Calls PyProof.Rows PyProof.Rows.LCg
section
variable {M : Model} {A : Around} {E : Value → Shared → Prop} {s : Shared}
/-- the frame of a comprehension whose own names may be cells -/
theorem newEnv_comp {scope : Scope} {globals : Addr} {cl : List (Str × Addr)} {qual : Str} {env : Env} {Q : Env → Shared → Prop}
    (h : Q { scope := scope, locals := s.heap.objs.size, globals := globals, cells := cellsFrom (s.heap.objs.size + 1) scope.names cl, qual := qual, func := none, code := env.code, frame := env.frame, builtins := env.builtins }
      { s with heap := pushCells (s.heap.push { cls := .type "dict", data := .dict #[] }) scope.names }) :
    wpAny M A (newFunctionEnv scope globals cl [] qual none .none (some env)) Q E s := by
  simp only [newFunctionEnv, Option.isSome_some, if_true]
  refine wpAny_bind (wpAny_alloc ?_)
  refine wpAny_bind (wpAny_layCells _ (fun name kind cells => by cases hkc : kind == NameKind.cell <;> simp [hkc]) _ _ _ _ ?_)
  rw [List.forIn_nil]
  refine wpAny_bind (wpAny_pure (wpAny_pure ?_))
  rw [show ({ s with heap := s.heap.push { cls := .type "dict", data := .dict #[] } } : Shared).heap.objs.size = s.heap.objs.size + 1 from Heap.size_push ..]
  exact h
end
section
variable {prog : Program} {w : World} {A : Around} {E : Value → Shared → Prop} {s : Shared} {h₀ : Heap} {L : Addr} {m : Str → Option Value} {env : Env}
theorem comp1C_block {elt iter : Expr} {x : Str} {px : Pos} {scope : Scope} {cl : List (Str × Addr)} {pos : Pos} {s₂ : Shared} {I : Addr} {fp wr : List Addr} {n : Nat} {P : Nat → Value → Prop} {St : Nat → Heap → Prop} {led : List (Addr × Obj)}
    {RR : Value → Addr → Result → Shared → Prop}
    (W : Walks prog w A I fp wr n P St) (hsz : n ≤ sizeLine)
    (hcf : ∀ k, cellsFrom k scope.names cl = (x, k) :: cl) (hpc : ∀ h, pushCells h scope.names = h.push { cls := .type "cell", data := .cell none }) (hkind : scope.kind = .function) (hx : ∀ B cl', (compEnvC scope cl' B env).kindOf x = some .cell)
    (hst : St 0 s₂.heap) (hlive : ∀ i h, St i h → ∀ b ∈ fp, ∃ o, h.get? b = some o)
    (F : Fr h₀ L s₂.heap m) (N : News h₀ L s₂.heap led) (hLf : L ∉ fp) (hwr : ∀ b ∈ wr, h₀.get? b = none) (hnw : ∀ p ∈ led, p.1 ∉ wr)
    (J : Nat → List Value → List (Addr × Obj) → Prop) (h0 : J 0 [] led)
    (turn : ∀ i v ys led₁ own B K oK h tk (E' : Value → Shared → Prop), i < n → P i v → J i ys led₁ → (K, oK) ∈ own → (∀ q ∈ own, q.1 ∈ fp ∨ ∀ p ∈ led, p.1 < q.1) → oK.data = .cell (some v) → Fr h₀ L h m → News h₀ L h (own ++ led₁) →
      wpAny (model prog w) A (eval elt (compEnvC scope ((x, K) :: cl) B env)) (CompOut h₀ L m { s₂ with heap := h, toks := tk } own led₁ (fun y led₂ => J (i + 1) (ys ++ [y]) led₂)) E' { s₂ with heap := h, toks := tk })
    (hRR : ∀ D C h tk m' ys led₁, Fr h₀ L h m → News h₀ L h ((D, lst ys) :: led₁) → (∀ p ∈ led₁, p.1 ≠ D) → (∀ p ∈ led, p.1 < D) → h.Ns C m' → h₀.get? C = none → h₀.get? D = none → C ≠ L → D ≠ L → C ≠ D → (∀ p ∈ led₁, p.1 ≠ C) → ys.length = n → J n ys led₁ → RR (.ref D) C (.ok .next) { s₂ with heap := h, toks := tk }) :
    wpAny (model prog w) A (newList []) (fun acc s₃ => wpAny (model prog w) A (newFunctionEnv scope env.globals cl [] env.qual none .none (some env)) (fun cenv s₄ =>
      codeAny (model prog w) A (.compStart (.ListComp elt [⟨.Name x px, iter, [], 0⟩] scope pos) 0 (.ref I) acc { cenv with scope := relabel scope env }) (RR acc cenv.locals) s₄) E s₃) E s₂ := by
  refine wpAny_newObj_type (newEnv_comp ?_)
  rw [hcf, hpc]
  dsimp only
  generalize hH2 : s₂.heap.push { cls := .type "list", dict := none, data := .seq ([] : List Value).toArray } = H2
  generalize hH3 : (H2.push { cls := .type "dict", data := .dict #[] }).push { cls := .type "cell", data := .cell none } = h₁
  have hC : H2.objs.size = s₂.heap.objs.size + 1 := by rw [← hH2, Heap.size_push]
  have hzK : H2.objs.size + 1 = (H2.push { cls := .type "dict", data := .dict #[] }).objs.size := by rw [Heap.size_push]
  have hDC : s₂.heap.objs.size ≠ H2.objs.size := by rw [hC]; exact Nat.ne_of_lt (Nat.lt_succ_self _)
  have hDK : s₂.heap.objs.size ≠ H2.objs.size + 1 := by rw [hC]; exact Nat.ne_of_lt (Nat.lt_succ_of_lt (Nat.lt_succ_self _))
  have hCK : H2.objs.size ≠ H2.objs.size + 1 := Nat.ne_of_lt (Nat.lt_succ_self _)
  have below : ∀ b, b < s₂.heap.objs.size → b ≠ H2.objs.size ∧ b ≠ s₂.heap.objs.size ∧ b ≠ H2.objs.size + 1 := fun b hb => ⟨by rw [hC]; exact Nat.ne_of_lt (Nat.lt_succ_of_lt hb), Nat.ne_of_lt hb, by rw [hC]; exact Nat.ne_of_lt (Nat.lt_succ_of_lt (Nat.lt_succ_of_lt hb))⟩
  have hfl : ∀ b ∈ fp, b < s₂.heap.objs.size := fun b hb => by obtain ⟨o, e⟩ := hlive _ _ hst b hb; exact Heap.lt_size e
  have hDf : s₂.heap.objs.size ∉ fp := fun hm => (below _ (hfl _ hm)).2.1 rfl
  have hCf : H2.objs.size ∉ fp := fun hm => (below _ (hfl _ hm)).1 rfl
  have hKf : H2.objs.size + 1 ∉ fp := fun hm => (below _ (hfl _ hm)).2.2 rfl
  have hDw : s₂.heap.objs.size ∉ wr := fun hm => hDf (W.sub _ hm)
  have hCw : H2.objs.size ∉ wr := fun hm => hCf (W.sub _ hm)
  have hKw : H2.objs.size + 1 ∉ wr := fun hm => hKf (W.sub _ hm)
  have hLw : L ∉ wr := fun hm => hLf (W.sub _ hm)
  have old2 : ∀ b o, H2.get? b = some o → h₁.get? b = some o := fun b o e => by rw [← hH3]; exact Heap.get?_push_of_some _ (Heap.get?_push_of_some _ e)
  have old : ∀ b o, s₂.heap.get? b = some o → h₁.get? b = some o := fun b o e => old2 b o (hH2 ▸ Heap.get?_push_of_some _ e)
  have hacc : h₁.get? s₂.heap.objs.size = some (lst []) := old2 _ _ (hH2 ▸ Heap.get?_push_size _ rfl)
  have hns₁ : h₁.Ns H2.objs.size (fun _ => none) := by rw [← hH3]; exact (Heap.Ns.new H2 (.type "dict")).keeps fun b o e => Heap.get?_push_of_some _ e
  have hcl₁ : h₁.IsCell (H2.objs.size + 1) none := ⟨_, by rw [← hH3, hzK]; exact Heap.get?_push_size _ rfl, rfl⟩
  have hst₁ : St 0 h₁ := W.frame _ _ _ hst fun b _ o e => old b o e
  have fresh₀ : ∀ a, s₂.heap.objs.size ≤ a → h₀.get? a = none := fun a ha => by
    cases e : h₀.get? a with
    | none => rfl
    | some o' => exact absurd (Heap.lt_size (F.keep a o' e)) (Nat.not_lt.mpr ha)
  have hD₀ : h₀.get? s₂.heap.objs.size = none := fresh₀ _ (Nat.le_refl _)
  have hC₀ : h₀.get? H2.objs.size = none := fresh₀ _ (by rw [hC]; exact Nat.le_succ _)
  have hK₀ : h₀.get? (H2.objs.size + 1) = none := fresh₀ _ (by rw [hC]; exact Nat.le_succ_of_le (Nat.le_succ _))
  have hLlt : L < s₂.heap.objs.size := F.ns.lt
  have hDL : s₂.heap.objs.size ≠ L := Ne.symm (below L hLlt).2.1
  have hCL : H2.objs.size ≠ L := Ne.symm (below L hLlt).1
  have hKL : H2.objs.size + 1 ≠ L := Ne.symm (below L hLlt).2.2
  have oldw : ∀ b o, h₀.get? b = some o → b ∉ wr := fun b o e hb => by rw [hwr b hb] at e; cases e
  have hlk : ((compEnvC scope ((x, H2.objs.size + 1) :: cl) H2.objs.size env).cells).lookup x = some (H2.objs.size + 1) := by simp [compEnvC, List.lookup_cons]
  have loop : ∀ s₃ : Shared, s₃ = { s₂ with heap := h₁ } →
      codeAny (model prog w) A (.compLoop (.ListComp elt [⟨.Name x px, iter, [], 0⟩] scope pos) 0 (.ref I) (.ref s₂.heap.objs.size) (compEnvC scope ((x, H2.objs.size + 1) :: cl) H2.objs.size env))
        (RR (.ref s₂.heap.objs.size) H2.objs.size) s₃ := by
    rintro s₃ rfl
    refine codeAny_compLoop_tests
      (fun k s' => ∀ H : Prop, (∀ h' tk i ys ov led₁,
    s' = { s₂ with heap := h', toks := tk } → i ≤ n → k = n + 1 - i → ys.length = i → St i h' → Fr h₀ L h' m → h'.Ns H2.objs.size (fun _ => none) → h'.IsCell (H2.objs.size + 1) ov → News h₀ L h' ((s₂.heap.objs.size, lst ys) :: led₁) → (∀ p ∈ led₁, p.1 ∉ wr ∧ p.1 ≠ H2.objs.size ∧ p.1 ≠ s₂.heap.objs.size ∧ p.1 ≠ H2.objs.size + 1) → J i ys led₁ → H) → H) ?_ (n + 1)
      (fun _ k9 => k9 h₁ _ 0 [] none led rfl (Nat.zero_le _) rfl rfl hst₁ (F.keeps old) hns₁ hcl₁ (fun p hp => ?_) (fun p hp => ⟨hnw p hp, below _ (Heap.lt_size (N p hp).1)⟩) h0)
    · intro k s' hI9
      refine hI9 _ fun h' tk i ys ov led₁ hs9 hi hk9 hyl hst' F' hn' hc' N' off' hJ => ?_
      subst hs9 hk9
      have keepFr : ∀ h₂ : Heap, (∀ b o, b ∉ wr → h'.get? b = some o → h₂.get? b = some o) → Fr h₀ L h₂ m := fun h₂ hk => ⟨F'.ns.at' fun o e => hk L o hLw e, fun b o e => hk b o (oldw b o e) (F'.keep b o e), F'.above⟩
      have keepN : ∀ h₂ : Heap, (∀ b o, b ∉ wr → h'.get? b = some o → h₂.get? b = some o) → News h₀ L h₂ ((s₂.heap.objs.size, lst ys) :: led₁) := fun h₂ hk p hp => by
        refine ⟨hk _ _ ?_ (N' p hp).1, (N' p hp).2⟩
        rcases List.mem_cons.mp hp with rfl | hp
        · exact hDw
        · exact (off' p hp).1
      by_cases hlt : i < n
      · refine W.item i _ _ _ hlt hst' fun v h₂ tk₂ hPv hst₂ hk₂ => ?_
        have hc₂ : h₂.IsCell (H2.objs.size + 1) ov := by obtain ⟨o, e, d⟩ := hc'; exact ⟨o, hk₂ _ o hKw e, d⟩
        refine wpAny_assign_Name (wpAny_storeName_cell (by simp [compEnvC, relabel, hkind]) (hx _ _) hlk hc₂ (fun h₃ hc₃ hs₃ => ?_))
        refine wpAny_tests_nil ?_
        simp only [if_true]
        have hst₃ : St (i + 1) h₃ := W.frame _ _ _ hst₂ fun b hb o e => hs₃.extBut b o (fun q => hKf (by have q' : b = H2.objs.size + 1 := q; rw [← q']; exact hb)) e
        obtain ⟨oK, heK, hoK⟩ := hc₃
        have hn₃ : h₃.Ns H2.objs.size (fun _ => none) := (hn'.at' fun o e => hk₂ _ o hCw e).sameBut hs₃ hCK
        have F₃ : Fr h₀ L h₃ m := (keepFr h₂ hk₂).change hs₃ hKL hK₀
        have N₂ := keepN h₂ hk₂
        have N₃ : News h₀ L h₃ ((s₂.heap.objs.size, lst ys) :: led₁) := fun p hp => by
          refine ⟨hs₃.extBut _ _ ?_ (N₂ p hp).1, (N₂ p hp).2⟩
          rcases List.mem_cons.mp hp with rfl | hp
          · exact hDK
          · exact (off' p hp).2.2.2
        obtain ⟨oC, heC, hoC⟩ := ns_obj hn₃
        have Nown : News h₀ L h₃ ((H2.objs.size + 1, oK) :: (H2.objs.size, oC) :: (s₂.heap.objs.size, lst ys) :: ownOf h₀ fp h₃) := fun p hp => by
          rcases List.mem_cons.mp hp with rfl | hp
          · exact ⟨heK, hKL, hK₀⟩
          · rcases List.mem_cons.mp hp with rfl | hp
            · exact ⟨heC, hCL, hC₀⟩
            · rcases List.mem_cons.mp hp with rfl | hp
              · exact N₃ _ (List.mem_cons_self)
              · exact news_ownOf hLf p hp
        have NN : News h₀ L h₃ (((H2.objs.size + 1, oK) :: (H2.objs.size, oC) :: (s₂.heap.objs.size, lst ys) :: ownOf h₀ fp h₃) ++ led₁) := fun p hp => (List.mem_append.mp hp).elim (Nown p) fun h => N₃ p (List.mem_cons_of_mem _ h)
        refine wpAny_mono (turn i v ys led₁ _ H2.objs.size (H2.objs.size + 1) oK h₃ _ _ hlt hPv hJ List.mem_cons_self (fun q hq => by
          rcases List.mem_cons.mp hq with rfl | hq
          · exact .inr fun p hp => by (show p.1 < H2.objs.size + 1; rw [hC]; exact Nat.lt_succ_of_lt (Nat.lt_succ_of_lt (Heap.lt_size (N p hp).1)))
          · rcases List.mem_cons.mp hq with rfl | hq
            · exact .inr fun p hp => by (show p.1 < H2.objs.size; rw [hC]; exact Nat.lt_succ_of_lt (Heap.lt_size (N p hp).1))
            · rcases List.mem_cons.mp hq with rfl | hq
              · exact .inr fun p hp => Heap.lt_size (N p hp).1
              · exact .inl (ownOf_sub q hq)) hoK F₃ NN) (fun y s₄ h₄ => ?_) fun _ _ e => e
        obtain ⟨h₄, tk₄, led₂, rfl, F₄, N₄, off₄, hJ₄⟩ := h₄
        have zK := (N₄ (H2.objs.size + 1, oK) (List.mem_append_left _ List.mem_cons_self)).1
        have zC := (N₄ (H2.objs.size, oC) (List.mem_append_left _ (List.mem_cons_of_mem _ List.mem_cons_self))).1
        have zD := (N₄ (s₂.heap.objs.size, lst ys) (List.mem_append_left _ (List.mem_cons_of_mem _ (List.mem_cons_of_mem _ List.mem_cons_self)))).1
        have zO : ∀ p ∈ ownOf h₀ fp h₃, h₄.get? p.1 = some p.2 := fun p hp => (N₄ p (List.mem_append_left _ (List.mem_cons_of_mem _ (List.mem_cons_of_mem _ (List.mem_cons_of_mem _ hp))))).1
        have zf : ∀ b ∈ fp, ∀ o, h₃.get? b = some o → h₄.get? b = some o := fun b hb o e => by
          cases hn : h₀.get? b with
          | some o₀ =>
            have : o₀ = o := by have := F₃.keep b o₀ hn; rw [e] at this; exact (Option.some.inj this).symm
            exact this ▸ F₄.keep b o₀ hn
          | none => exact zO _ (mem_ownOf hb hn e)
        have hst₄ : St (i + 1) h₄ := W.frame _ _ _ hst₃ zf
        have N₄' : News h₀ L h₄ led₂ := fun p hp => N₄ p (List.mem_append_right _ hp)
        have off2 : ∀ p ∈ led₂, p.1 ∉ wr ∧ p.1 ≠ H2.objs.size ∧ p.1 ≠ s₂.heap.objs.size ∧ p.1 ≠ H2.objs.size + 1 := fun p hp => by
          rcases off₄ p hp with ⟨q, hq, e⟩ | hall
          · rw [← e]; exact off' q hq
          · refine ⟨fun hw => ?_, Ne.symm (Nat.ne_of_lt (hall _ (List.mem_cons_of_mem _ List.mem_cons_self))), Ne.symm (Nat.ne_of_lt (hall _ (List.mem_cons_of_mem _ (List.mem_cons_of_mem _ List.mem_cons_self)))), Ne.symm (Nat.ne_of_lt (hall _ List.mem_cons_self))⟩
            obtain ⟨o, e⟩ := hlive _ _ hst₃ _ (W.sub _ hw)
            exact absurd (hall _ (List.mem_cons_of_mem _ (List.mem_cons_of_mem _ (List.mem_cons_of_mem _ (mem_ownOf (W.sub _ hw) (hwr _ hw) e))))) (Nat.lt_irrefl _)
        refine append_at (hsz := by show ys.toArray.size ≤ sizeLine; rw [List.size_toArray, hyl]; exact Nat.le_trans hi hsz) zD fun h₅ hs₅ hD₅ => ?_
        refine ⟨n + 1 - (i + 1), sub_less hlt, fun _ k9 => k9 h₅ tk₄ (i + 1) (ys ++ [y]) (some v) led₂ rfl hlt rfl (by rw [List.length_append, List.length_singleton, hyl]) (W.frame _ _ _ hst₄ fun b hb o e => hs₅.extBut b o (fun q => hDf (q ▸ hb)) e) (F₄.change hs₅ hDL hD₀) ((hoC.ns zC).sameBut hs₅ (Ne.symm hDC)) ⟨oK, hs₅.extBut _ _ (Ne.symm hDK) zK, hoK⟩ (fun p hp => ?_) off2 hJ₄⟩
        rcases List.mem_cons.mp hp with rfl | hp
        · exact ⟨hD₅.trans (congrArg some (lst_snoc ys y)), hDL, hD₀⟩
        · exact ⟨hs₅.extBut _ _ (off2 p hp).2.2.1 (N₄' p hp).1, (N₄' p hp).2⟩
      · obtain rfl : i = n := Nat.le_antisymm hi (Nat.not_lt.mp hlt)
        refine W.done _ _ _ hst' fun h₂ tk₂ hk₂ => ?_
        exact hRR _ _ h₂ tk₂ _ ys led₁ (keepFr h₂ hk₂) (keepN h₂ hk₂) (fun p hp => (off' p hp).2.2.1) (fun p hp => Heap.lt_size (N p hp).1) (hn'.at' fun o e => hk₂ _ o hCw e) hC₀ hD₀ hCL hDL (Ne.symm hDC) (fun p hp => (off' p hp).2.1) hyl hJ
    · rcases List.mem_cons.mp hp with rfl | hp
      · exact ⟨hacc, hDL, hD₀⟩
      · exact ⟨old _ _ (N p hp).1, (N p hp).2⟩
  exact codeAny_compStart_list (loop _ rfl) (W.self 0 _ _ _ hst₁ (loop _ rfl))
/-- the same as Cmp1 where the name of the comprehension is a cell of its own -/
def Cmp1C (prog : Program) (w : World) (A : Around) (h₀ : Heap) (L : Addr) (m : Str → Option Value) (env : Env) (elt : Expr) (x : Str) (scope : Scope) (cl : List (Str × Addr)) (Fin : Value → Heap → Nat → List (Addr × Obj) → Prop) (it : Value) (s₂ : Shared) : Prop :=
  ∀ H : Prop, (∀ (I : Addr) (fp wr : List Addr) (n : Nat) (P : Nat → Value → Prop) (St : Nat → Heap → Prop) (led : List (Addr × Obj)) (J : Nat → List Value → List (Addr × Obj) → Prop),
    it = .ref I → Walks prog w A I fp wr n P St → n ≤ sizeLine → St 0 s₂.heap → (∀ i h, St i h → ∀ b ∈ fp, ∃ o, h.get? b = some o) → Fr h₀ L s₂.heap m → News h₀ L s₂.heap led → L ∉ fp → (∀ b ∈ wr, h₀.get? b = none) → (∀ p ∈ led, p.1 ∉ wr) → J 0 [] led → (∀ i v ys led₁ own B K oK h tk (E' : Value → Shared → Prop), i < n → P i v → J i ys led₁ → (K, oK) ∈ own → (∀ q ∈ own, q.1 ∈ fp ∨ ∀ p ∈ led, p.1 < q.1) → oK.data = .cell (some v) → Fr h₀ L h m → News h₀ L h (own ++ led₁) →
      wpAny (model prog w) A (eval elt (compEnvC scope ((x, K) :: cl) B env)) (CompOut h₀ L m { s₂ with heap := h, toks := tk } own led₁ (fun y led₂ => J (i + 1) (ys ++ [y]) led₂)) E' { s₂ with heap := h, toks := tk }) → (∀ D h tk ys led₁, News h₀ L h ((D, lst ys) :: led₁) → (∀ p ∈ led₁, p.1 ≠ D) → (∀ p ∈ led, p.1 < D) → ys.length = n → J n ys led₁ → Fin (.ref D) h tk led₁) → H) → H
def IterE1C (prog : Program) (w : World) (A : Around) (E : Value → Shared → Prop) (h₀ : Heap) (L : Addr) (m : Str → Option Value) (env : Env) (elt : Expr) (x : Str) (scope : Scope) (cl : List (Str × Addr)) (Q : Value → Shared → Prop) (xv : Value) (s₁ : Shared) : Prop :=
  wpAny (model prog w) A (pyIter xv) (fun it s₂ => Cmp1C prog w A h₀ L m env elt x scope cl (FinOfE h₀ L m s₂ Q) it s₂) E s₁
theorem ListComp1CE (_F₀ : Fr h₀ L s.heap m) {elt iter : Expr} {x : Str} {px : Pos} {scope : Scope} {cl : List (Str × Addr)} {pos : Pos} {Q : Value → Shared → Prop}
    (hclos : closureFor scope env = pure cl) (hcf : ∀ k, cellsFrom k scope.names cl = (x, k) :: cl) (hpc : ∀ h, pushCells h scope.names = h.push { cls := .type "cell", data := .cell none }) (hkind : scope.kind = .function)
    (hnames : ∀ y ∈ scope.names, y.2 = .local → scope.names.lookup y.1 = some .local) (hx : ∀ B cl', (compEnvC scope cl' B env).kindOf x = some .cell)
    (h : wpAny (model prog w) A (eval iter env) (IterE1C prog w A E h₀ L m env elt x scope cl Q) E s)
    (hs : ∀ x, foldedSetIterable iter env x = pure x) :
    wpAny (model prog w) A (eval (.ListComp elt [⟨.Name x px, iter, [], 0⟩] scope pos) env) Q E s := by
  rw [eval_ListComp]
  refine wpAny_comprehension_free (use := none) rfl hs hclos hkind hnames (wpAny_mono h (fun xv s₁ h₁ => ?_) fun _ _ e => e)
  refine wpAny_mono h₁ (fun it s₂ h₂ => ?_) fun _ _ e => e
  refine h₂ _ fun I fp wr n P St led J hit W hsz hst hlive F N hLf hwr hnw h0 turn fin => ?_
  subst hit
  refine comp1C_block W hsz hcf hpc hkind hx hst hlive F N hLf hwr hnw J h0 turn ?_
  intro D C h tk m' ys led₁ F' N' hD hlt hn hC₀ hD₀ hCL hDL hCD offC hlen hJ
  obtain ⟨a, o, ea, ho, hQ⟩ := fin D h tk ys led₁ N' hD hlt hlen hJ
  cases ea
  refine ⟨m', hn, fun h'' hs'' => hQ h'' (F'.change hs'' hCL hC₀) fun p hp => ?_⟩
  have z : h.get? p.1 = some p.2 ∧ p.1 ≠ L ∧ h₀.get? p.1 = none := by
    rcases List.mem_cons.mp hp with rfl | hp
    · exact ⟨ho, (N' _ List.mem_cons_self).2⟩
    · exact N' p (List.mem_cons_of_mem _ hp)
  refine ⟨hs''.extBut _ _ ?_ z.1, z.2⟩
  rcases List.mem_cons.mp hp with rfl | hp
  · exact Ne.symm hCD
  · exact offC p hp
theorem IterE1C.list {led : List (Addr × Obj)} {elt : Expr} {x : Str} {scope : Scope} {cl : List (Str × Addr)} {Q : Value → Shared → Prop} {ax : Addr} {its : Array Value} {k : Nat} (hh : A.handled = none) (F : Fr h₀ L s.heap m) (N : News h₀ L s.heap led) (hm : (ax, ({ cls := .type "list", data := .seq its k } : Obj)) ∈ led) (hsz : its.size ≤ sizeLine)
    (J : Nat → List Value → List (Addr × Obj) → Prop) (h0 : J 0 [] led)
    (turn : ∀ i v ys led₁ own B K oK h tk (E' : Value → Shared → Prop), i < its.size → its[i]? = some v → J i ys led₁ → (K, oK) ∈ own → oK.data = .cell (some v) → Fr h₀ L h m → News h₀ L h (own ++ led₁) →
      wpAny (model prog w) A (eval elt (compEnvC scope ((x, K) :: cl) B env)) (CompOut h₀ L m { s with heap := h, toks := tk } own led₁ (fun y led₂ => J (i + 1) (ys ++ [y]) led₂)) E' { s with heap := h, toks := tk })
    (fin : ∀ D h tk ys led₁, Fr h₀ L h m → News h₀ L h ((D, lst ys) :: led₁) → (∀ p ∈ led₁, p.1 ≠ D) → (∀ p ∈ led, p.1 < D) → ys.length = its.size → J its.size ys led₁ → Q (.ref D) { s with heap := h, toks := tk }) :
    IterE1C prog w A E h₀ L m env elt x scope cl Q (.ref ax) s := by
  have hl : s.heap.IsList ax its := ⟨_, (N _ hm).1, rfl, _, rfl⟩
  have hne : ax ≠ s.heap.objs.size := Nat.ne_of_lt (Heap.lt_size (N _ hm).1)
  refine wpAny_pyIter_list hl ?_
  refine fun _ k9 => k9 s.heap.objs.size _ _ its.size _ _ led J rfl (Walks.list hh s.heap.objs.size ax hne its) hsz ⟨⟨_, Heap.get?_push_size _ rfl, rfl, rfl⟩, hl.push _⟩ ?_ (F.push _) (fun p hp => ⟨Heap.get?_push_of_some _ (N p hp).1, (N p hp).2⟩) ?_ ?_ ?_ h0 ?_ ?_
  · rintro i h ⟨⟨o, e, _⟩, o', e', _⟩ b hb
    rcases List.mem_cons.mp hb with rfl | hb
    · exact ⟨o, e⟩
    · rw [List.mem_singleton.mp hb]; exact ⟨o', e'⟩
  · intro hb
    rcases List.mem_cons.mp hb with e | hb
    · exact absurd F.ns.lt (e ▸ Nat.lt_irrefl _)
    · exact (N _ hm).2.1 (List.mem_singleton.mp hb).symm
  · intro b hb
    rw [List.mem_singleton.mp hb]
    exact next_is_new F
  · intro p hp hI
    exact absurd (Heap.lt_size (N p hp).1) ((List.mem_singleton.mp hI) ▸ Nat.lt_irrefl _)
  · exact fun i v ys led₁ own B K oK h tk E' a b c d _ e => turn i v ys led₁ own B K oK h tk E' a b c d e
  · intro D h tk ys led₁ N' hD hlt hlen hJ
    exact ⟨D, _, rfl, (N' _ List.mem_cons_self).1, fun h' F' N'' => fin D h' _ ys led₁ F' N'' hD hlt hlen hJ⟩
end
end Mine
-- CutLib
set_option maxHeartbeats 4000000
set_option maxRecDepth 100000
namespace Mine
open PySem PySem.Spec PySem.Calls PyProof.Rows PyProof.Rows.LCg PyProof.Rows.LCt
/-- the numbers below n that are kept -/
noncomputable def keptTo (keep : Nat → Bool) : Nat → List Int
  | 0 => []
  | n + 1 => keptTo keep n ++ (if keep n = true then [((n : Nat) : Int)] else [])
section
variable {prog : Program} {w : World} {A : Around} {E : Value → Shared → Prop} {s : Shared} {h₀ : Heap} {L : Addr} {m : Str → Option Value} {env : Env} {led : List (Addr × Obj)}
/-- the turns of a comprehension that keeps some of a range's numbers -/
theorem kept_rest {ct elt : Expr} {x : Str} {scope : Scope} {cl : List (Str × Addr)} {Fin : List Value → List (Addr × Obj) → Prop} (keep : Nat → Bool) (n : Nat)
    (test : ∀ i t I oI C oC D ys m₂ h tk (E' : Value → Shared → Prop) (R : Bool → Shared → Prop), i < n → NsObj oC m₂ → m₂ x = some (.int ((i : Nat) : Int) t) → Fr h₀ L h m → News h₀ L h ((I, oI) :: (C, oC) :: (D, lst ys) :: led) →
      (∀ h' tk', Fr h₀ L h' m → News h₀ L h' ((I, oI) :: (C, oC) :: (D, lst ys) :: led) → R (keep i) { s with heap := h', toks := tk' }) →
      wpAny (model prog w) A (isTrue ct (compEnvC scope cl C env) (eval ct (compEnvC scope cl C env))) R E' { s with heap := h, toks := tk })
    (elem : ∀ i t I oI C oC D ys m₂ h tk (E' : Value → Shared → Prop) (R : Value → Shared → Prop), i < n → NsObj oC m₂ → m₂ x = some (.int ((i : Nat) : Int) t) → Fr h₀ L h m → News h₀ L h ((I, oI) :: (C, oC) :: (D, lst ys) :: led) →
      (∀ h' tk', Fr h₀ L h' m → News h₀ L h' ((I, oI) :: (C, oC) :: (D, lst ys) :: led) → R (.int ((i : Nat) : Int) t) { s with heap := h', toks := tk' }) →
      wpAny (model prog w) A (eval elt (compEnvC scope cl C env)) R E' { s with heap := h, toks := tk })
    (fin : ∀ ys, Ints ys (keptTo keep n) → Fin ys led) :
    ∀ k i ys, i + k = n → Ints ys (keptTo keep i) → CompRestT prog w A h₀ L m env ct elt x scope cl s (fun _ => True) (fun i v => ∃ t, v = .int (0 + (i : Int)) t) Fin k i ys led
  | 0, i, ys, hi, hy => by
    have e : i = n := by lia
    subst e
    exact CompRestT.zero (fin ys hy)
  | k + 1, i, ys, hi, hy => by
    refine CompRestT.succ ?_
    rintro v I oI C oC D m₂ h tk E' ⟨t, rfl⟩ hns hx F N off ne
    rw [show (0 : Int) + ((i : Nat) : Int) = ((i : Nat) : Int) by lia] at hx
    refine test i t I oI C oC D ys m₂ h tk _ _ (by lia) hns hx F N fun h' tk' F' N' => ?_
    cases hk : keep i with
    | true =>
      rw [if_pos rfl]
      refine elem i t I oI C oC D ys m₂ h' tk' _ _ (by lia) hns hx F' N' fun h2 tk2 F2 N2 => ?_
      refine CompEnd.intro F2 N2 led (fun p hp => hp) off trivial (kept_rest keep n test elem fin k (i + 1) _ (by lia) ?_)
      show Ints (ys ++ [_]) (keptTo keep i ++ (if keep i = true then [((i : Nat) : Int)] else []))
      rw [if_pos hk]
      exact hy.snoc
    | false =>
      rw [if_neg (by decide)]
      refine CompEnd.intro F' N' led (fun p hp => hp) off trivial (kept_rest keep n test elem fin k (i + 1) _ (by lia) ?_)
      show Ints ys (keptTo keep i ++ (if keep i = true then [((i : Nat) : Int)] else []))
      rw [if_neg (by rw [hk]; decide), List.append_nil]
      exact hy
end
theorem Ints.are {vs : List Value} {ns : List Int} (h : Ints vs ns) : IntsAre vs ns := by
  induction h with
  | nil => exact .nil
  | cons _ ih => exact .cons _ _ ih
section
variable {prog : Program} {w : World} {A : Around} {E : Value → Shared → Prop} {s : Shared} {h₀ : Heap} {L : Addr} {led : List (Addr × Obj)}
theorem notin_at {l : Addr} {vs : List Value} {ns : List Int} {k : Int} {c : Nat} {t : Tok} {Q : Value → Shared → Prop} (N : News h₀ L s.heap led) (hm : (l, ({ cls := .type "list", data := .seq vs.toArray c } : Obj)) ∈ led) (hi : Ints vs ns)
    (h : Q (.bool (!(ns.any (· == k)))) s) : wpAny (model prog w) A (compareOp .NotIn (.int k t) (.ref l)) Q E s :=
  notin_list_ints ⟨_, (N _ hm).1, rfl, _, rfl⟩ hi.are h
end
theorem own_just {rest : List (Addr × Obj)} {P : Addr} (h : ∀ p ∈ rest, p.1 ≠ P) : PySem.W.OwnOff rest [P] := fun p hp x hx => by
  rw [List.mem_singleton.mp hx]
  exact h p hp
noncomputable def cellI (M : List (List Int)) (z u : Int) : Int := (M.getD z.toNat []).getD u.toNat 0
/-- the rows and columns of M that ks names -/
noncomputable def cutM (M : List (List Int)) (ks : List Int) : List (List Int) := ks.map fun z => ks.map fun u => cellI M z u
theorem keptTo_lt {keep : Nat → Bool} : ∀ {n : Nat} {z : Int}, z ∈ keptTo keep n → 0 ≤ z ∧ z < n
  | 0, z, h => by cases h
  | n + 1, z, h => by
    rcases List.mem_append.mp h with h | h
    · have := keptTo_lt h; lia
    · split at h
      · rw [List.mem_singleton.mp h]; lia
      · cases h
theorem keptTo_length {keep : Nat → Bool} : ∀ {n : Nat}, (keptTo keep n).length ≤ n
  | 0 => Nat.le_refl _
  | n + 1 => by
    have := keptTo_length (keep := keep) (n := n)
    show (keptTo keep n ++ _).length ≤ n + 1
    rw [List.length_append]
    split <;> simp <;> lia
theorem cell_at {led : List (Addr × Obj)} {gs : List Value} {M : List (List Int)} (hM : IntRows led gs M) (hl : M.length = 4) (hw : ∀ zs ∈ M, zs.length = 4) {z u : Int} (hz : 0 ≤ z ∧ z < 4) (hu : 0 ≤ u ∧ u < 4) :
    ∃ r k cs t, gs[z.toNat]? = some (.ref r) ∧ (r, ({ cls := .type "list", data := .seq (List.toArray cs) k } : Obj)) ∈ led ∧ cs[u.toNat]? = some (.int (cellI M z u) t) := by
  have h1 : z.toNat < M.length := by lia
  obtain ⟨v, hv, r, k, cs, rfl, hm, hc⟩ := hM.at (List.getElem?_eq_getElem h1)
  have h2 : u.toNat < M[z.toNat].length := by rw [hw _ (List.getElem_mem h1)]; lia
  obtain ⟨t, ht⟩ := hc.at (List.getElem?_eq_getElem h2)
  refine ⟨r, k, cs, t, hv, hm, ?_⟩
  rw [ht]
  unfold cellI
  rw [List.getD_eq_getElem?_getD, List.getD_eq_getElem?_getD, List.getElem?_eq_getElem h1, Option.getD_some, List.getElem?_eq_getElem h2, Option.getD_some]
section
variable {prog : Program} {w : World} {A : Around} {E : Value → Shared → Prop} {s : Shared} {h₀ : Heap} {L : Addr} {m : Str → Option Value} {env : Env} {led : List (Addr × Obj)}
theorem ints_grow {ys : List Value} {zs : List Int} {i : Nat} {z : Int} {t : Tok} (h : Ints ys (zs.take i)) (hz : zs[i]? = some z) : Ints (ys ++ [.int z t]) (zs.take (i + 1)) := by
  rw [List.take_add_one, hz]
  exact h.snoc
theorem IterE1.listInts {elt : Expr} {x : Str} {scope : Scope} {cl : List (Str × Addr)} {Q : Value → Shared → Prop} {ax : Addr} {its : Array Value} {k : Nat} (hh : A.handled = none) (F : Fr h₀ L s.heap m) (N : News h₀ L s.heap led) (hm : (ax, ({ cls := .type "list", data := .seq its k } : Obj)) ∈ led) (hsz : its.size ≤ sizeLine)
    (zs : List Int) (hz : zs.length = its.size)
    (turn : ∀ i v z own C oC m₂ h tk (E' : Value → Shared → Prop), i < its.size → its[i]? = some v → zs[i]? = some z → (C, oC) ∈ own → NsObj oC m₂ → m₂ x = some v → Fr h₀ L h m → News h₀ L h (own ++ led) →
      wpAny (model prog w) A (eval elt (compEnvC scope cl C env)) (CompOut h₀ L m { s with heap := h, toks := tk } own led (fun y led₂ => led₂ = led ∧ ∃ t, y = .int z t)) E' { s with heap := h, toks := tk })
    (fin : ∀ D h tk ys, Fr h₀ L h m → News h₀ L h ((D, lst ys) :: led) → (∀ p ∈ led, p.1 < D) → Ints ys zs → Q (.ref D) { s with heap := h, toks := tk }) :
    IterE1 prog w A E h₀ L m env elt x scope cl Q (.ref ax) s := by
  refine IterE1.list hh F N hm hsz (fun i ys led₁ => led₁ = led ∧ Ints ys (zs.take i)) ⟨rfl, .nil⟩ ?_ ?_
  · rintro i v ys led₁ own C oC m₂ h tk E' hi hv ⟨rfl, hJ⟩ hC hns hx F1 N1
    have hzi : zs[i]? = some (zs[i]'(by lia)) := List.getElem?_eq_getElem _
    refine wpAny_mono (turn i v _ own C oC m₂ h tk E' hi hv hzi hC hns hx F1 N1) (fun u s₂ q => ?_) fun _ _ e => e
    obtain ⟨h', tk', led₂, e, F2, N2, off, rfl, t, rfl⟩ := q
    exact ⟨h', tk', led₂, e, F2, N2, off, rfl, ints_grow hJ hzi⟩
  · rintro D h tk ys led₁ F1 N1 hD hlt hlen ⟨rfl, hJ⟩
    rw [List.take_of_length_le (by lia)] at hJ
    exact fin D h tk ys F1 N1 hlt hJ
end
theorem cellI_bits {M : List (List Int)} {k : Nat} (h : ∀ zs ∈ M, ∀ z ∈ zs, z.natAbs < 2 ^ k) (z u : Int) : (cellI M z u).natAbs < 2 ^ k := by
  unfold cellI
  rw [List.getD_eq_getElem?_getD, List.getD_eq_getElem?_getD]
  cases h1 : M[z.toNat]? with
  | none => simpa using Nat.pow_pos (n := k) (show 0 < 2 by decide)
  | some zs =>
    rw [Option.getD_some]
    cases h2 : zs[u.toNat]? with
    | none => simpa using Nat.pow_pos (n := k) (show 0 < 2 by decide)
    | some v => exact h _ (List.mem_of_getElem? h1) _ (List.mem_of_getElem? h2)
theorem cutM_len (M : List (List Int)) (ks : List Int) : (cutM M ks).length = ks.length := List.length_map ..
theorem cutM_wide {M : List (List Int)} {ks : List Int} : ∀ zs ∈ cutM M ks, zs.length = ks.length := fun zs h => by
  obtain ⟨z, _, rfl⟩ := List.mem_map.mp h
  exact List.length_map ..
theorem cutM_bits {M : List (List Int)} {ks : List Int} {k : Nat} (h : ∀ zs ∈ M, ∀ z ∈ zs, z.natAbs < 2 ^ k) : ∀ zs ∈ cutM M ks, ∀ z ∈ zs, z.natAbs < 2 ^ k := fun zs h1 z h2 => by
  obtain ⟨a, _, rfl⟩ := List.mem_map.mp h1
  obtain ⟨b, _, rfl⟩ := List.mem_map.mp h2
  exact cellI_bits h a b
/-- what is kept beside one number, beside two -/
abbrev but1 (b : Int) : List Int := keptTo (fun i => !([b].any (· == ((i : Nat) : Int)))) 4
abbrev but2 (a b : Int) : List Int := keptTo (fun i => !([a, b].any (· == ((i : Nat) : Int)))) 4
theorem ext_two {led t1 t2 : List (Addr × Obj)} {z1 z2 : Addr × Obj} {p : Addr × Obj} (h : p ∈ led) : p ∈ t2 ++ (z2 :: (t1 ++ (z1 :: led))) :=
  List.mem_append_right _ (List.mem_cons_of_mem _ (List.mem_append_right _ (List.mem_cons_of_mem _ h)))
theorem allLt_two {x : Addr} {led t1 t2 : List (Addr × Obj)} {z1 z2 : Addr × Obj} (h : PySem.W.AllLt x (t2 ++ (z2 :: (t1 ++ (z1 :: led))))) : PySem.W.AllLt x led := (allLt_drop (allLt_drop h).2).2
theorem keep_two {h₀ h : Heap} {L : Addr} {x : Addr × Obj} {led t1 t2 : List (Addr × Obj)} {z1 z2 : Addr × Obj} (N : News h₀ L h (x :: (t2 ++ (z2 :: (t1 ++ (z1 :: led)))))) : News h₀ L h (x :: led) := fun p hp => N p (by
  rcases List.mem_cons.mp hp with rfl | hp
  · exact List.mem_cons_self
  · exact List.mem_cons_of_mem _ (ext_two hp))
end Mine
-- Det3
set_option maxRecDepth 100000
set_option maxHeartbeats 4000000
namespace Mine
/-- clearing by a cell that is nought changes nothing -/
theorem clear_ne {c o : Nat} {M : Mat} {ps qs : List Rat} (ho : o ≠ c) (hp : M[o]? = some ps) (hq : M[c]? = some qs) (hl : ps.length = qs.length) :
    clearOne c M o = M.set o (List.zipWith (fun p q => p - cellM M o c * q) ps qs) := by
  have e1 : M.getD o [] = ps := by rw [List.getD_eq_getElem?_getD, hp]; rfl
  have e2 : M.getD c [] = qs := by rw [List.getD_eq_getElem?_getD, hq]; rfl
  unfold clearOne
  by_cases h : cellM M o c = 0
  · rw [if_neg (fun h' => h'.2 h), h]
    have e : List.zipWith (fun p q => p - 0 * q) ps qs = ps := by
      apply List.ext_getElem
      · rw [List.length_zipWith, hl, Nat.min_self]
      · intro i h1 h2
        rw [List.getElem_zipWith]
        grind
    rw [e]
    obtain ⟨hlt, rfl⟩ := List.getElem?_eq_some_iff.mp hp
    exact (List.set_getElem_self hlt).symm
  · rw [if_pos ⟨ho, h⟩, e1, e2]
theorem clear_eq {c : Nat} {M : Mat} : clearOne c M c = M := if_neg (fun h => h.1 rfl)
theorem turn0 {a b c p d e f q g h i r t : Rat} (ha : a ≠ 0) : turnM 3 0 [[a, b, c, p], [d, e, f, q], [g, h, i, r]] t =
    some ([[1, b / a, c / a, p / a], [0, e - d * (b / a), f - d * (c / a), q - d * (p / a)], [0, h - g * (b / a), i - g * (c / a), r - g * (p / a)]], t * a) := by
  have e0 : pivotIn [[a, b, c, p], [d, e, f, q], [g, h, i, r]] 0 3 0 = some 0 := by simp [pivotIn, ha]
  unfold turnM
  simp only [List.length_cons, List.length_nil, Nat.zero_add, Nat.sub_zero, e0, if_true]
  simp only [clearTo, normM, cellM, List.getD_cons_zero, List.map, List.set_cons_zero]
  rw [clear_eq, clear_ne (c := 0) (o := 1) (ps := [d, e, f, q]) (qs := [a / a, b / a, c / a, p / a]) (by decide) rfl rfl rfl]
  rw [clear_ne (c := 0) (o := 2) (ps := [g, h, i, r]) (qs := [a / a, b / a, c / a, p / a]) (by decide) rfl rfl rfl]
  have ea : a / a = 1 := by grind
  simp [cellM, List.zipWith, ea]
  grind
theorem turn1 {b c p e f q h i r t : Rat} (he : e ≠ 0) : turnM 3 1 [[1, b, c, p], [0, e, f, q], [0, h, i, r]] t =
    some ([[1, 0, c - b * (f / e), p - b * (q / e)], [0, 1, f / e, q / e], [0, 0, i - h * (f / e), r - h * (q / e)]], t * e) := by
  have e0 : pivotIn [[1, b, c, p], [0, e, f, q], [0, h, i, r]] 1 2 1 = some 1 := by simp [pivotIn, he]
  unfold turnM
  simp only [List.length_cons, List.length_nil, Nat.zero_add, Nat.reduceAdd, Nat.reduceSub, e0, if_true]
  simp only [clearTo, normM, cellM, List.getD_cons_zero, List.getD_cons_succ, List.map, List.set_cons_zero, List.set_cons_succ]
  rw [clear_ne (c := 1) (o := 0) (ps := [1, b, c, p]) (qs := [0 / e, e / e, f / e, q / e]) (by decide) rfl rfl rfl]
  rw [clear_eq, clear_ne (c := 1) (o := 2) (ps := [0, h, i, r]) (qs := [0 / e, e / e, f / e, q / e]) (by decide) rfl rfl rfl]
  have ea : e / e = 1 := by grind
  have ez : (0 : Rat) / e = 0 := by grind
  simp [cellM, List.zipWith, ea, ez]
  grind
theorem turn2 {c p f q i r t : Rat} (hi : i ≠ 0) : turnM 3 2 [[1, 0, c, p], [0, 1, f, q], [0, 0, i, r]] t =
    some ([[1, 0, 0, p - c * (r / i)], [0, 1, 0, q - f * (r / i)], [0, 0, 1, r / i]], t * i) := by
  have e0 : pivotIn [[1, 0, c, p], [0, 1, f, q], [0, 0, i, r]] 2 1 2 = some 2 := by simp [pivotIn, hi]
  unfold turnM
  simp only [List.length_cons, List.length_nil, Nat.zero_add, Nat.reduceAdd, Nat.reduceSub, e0, if_true]
  simp only [clearTo, normM, cellM, List.getD_cons_zero, List.getD_cons_succ, List.map, List.set_cons_zero, List.set_cons_succ]
  rw [clear_ne (c := 2) (o := 0) (ps := [1, 0, c, p]) (qs := [0 / i, 0 / i, i / i, r / i]) (by decide) rfl rfl rfl]
  rw [clear_ne (c := 2) (o := 1) (ps := [0, 1, f, q]) (qs := [0 / i, 0 / i, i / i, r / i]) (by decide) rfl rfl rfl, clear_eq]
  have ea : i / i = 1 := by grind
  have ez : (0 : Rat) / i = 0 := by grind
  simp [cellM, List.zipWith, ea, ez]
  grind
/-- Cramer -/
theorem solve3 {a b c p d e f q g h i r : Rat} (h1 : a ≠ 0) (h2 : a * e - b * d ≠ 0) (h3 : a * (e * i - f * h) - b * (d * i - f * g) + c * (d * h - e * g) ≠ 0) :
    solveM 3 3 0 [[a, b, c, p], [d, e, f, q], [g, h, i, r]] 1 =
      ([[1, 0, 0, (p * (e * i - f * h) - b * (q * i - f * r) + c * (q * h - e * r)) / (a * (e * i - f * h) - b * (d * i - f * g) + c * (d * h - e * g))],
        [0, 1, 0, (a * (q * i - f * r) - p * (d * i - f * g) + c * (d * r - q * g)) / (a * (e * i - f * h) - b * (d * i - f * g) + c * (d * h - e * g))],
        [0, 0, 1, (a * (e * r - q * h) - b * (d * r - q * g) + p * (d * h - e * g)) / (a * (e * i - f * h) - b * (d * i - f * g) + c * (d * h - e * g))]],
        a * (e * i - f * h) - b * (d * i - f * g) + c * (d * h - e * g)) := by
  have k2 : e - d * (b / a) ≠ 0 := by grind
  have k3 : i - g * (c / a) - (h - g * (b / a)) * ((f - d * (c / a)) / (e - d * (b / a))) ≠ 0 := by grind
  unfold solveM
  rw [turn0 h1]
  simp only
  unfold solveM
  rw [turn1 k2]
  simp only
  unfold solveM
  rw [turn2 k3]
  simp only
  unfold solveM
  refine Prod.ext ?_ ?_
  · simp only [List.cons.injEq, and_true, true_and]
    refine ⟨?_, ?_, ?_⟩ <;> grind
  · simp only
    grind
theorem turnd0 {a b c d e f g h i t : Rat} (ha : a ≠ 0) : turnM 3 0 [[a, b, c], [d, e, f], [g, h, i]] t =
    some ([[1, b / a, c / a], [0, e - d * (b / a), f - d * (c / a)], [0, h - g * (b / a), i - g * (c / a)]], t * a) := by
  have e0 : pivotIn [[a, b, c], [d, e, f], [g, h, i]] 0 3 0 = some 0 := by simp [pivotIn, ha]
  unfold turnM
  simp only [List.length_cons, List.length_nil, Nat.zero_add, Nat.sub_zero, e0, if_true]
  simp only [clearTo, normM, cellM, List.getD_cons_zero, List.map, List.set_cons_zero]
  rw [clear_eq, clear_ne (c := 0) (o := 1) (ps := [d, e, f]) (qs := [a / a, b / a, c / a]) (by decide) rfl rfl rfl]
  rw [clear_ne (c := 0) (o := 2) (ps := [g, h, i]) (qs := [a / a, b / a, c / a]) (by decide) rfl rfl rfl]
  have ea : a / a = 1 := by grind
  simp [cellM, List.zipWith, ea]
  grind
theorem turnd1 {b c e f h i t : Rat} (he : e ≠ 0) : turnM 3 1 [[1, b, c], [0, e, f], [0, h, i]] t =
    some ([[1, 0, c - b * (f / e)], [0, 1, f / e], [0, 0, i - h * (f / e)]], t * e) := by
  have e0 : pivotIn [[1, b, c], [0, e, f], [0, h, i]] 1 2 1 = some 1 := by simp [pivotIn, he]
  unfold turnM
  simp only [List.length_cons, List.length_nil, Nat.zero_add, Nat.reduceAdd, Nat.reduceSub, e0, if_true]
  simp only [clearTo, normM, cellM, List.getD_cons_zero, List.getD_cons_succ, List.map, List.set_cons_zero, List.set_cons_succ]
  rw [clear_ne (c := 1) (o := 0) (ps := [1, b, c]) (qs := [0 / e, e / e, f / e]) (by decide) rfl rfl rfl]
  rw [clear_eq, clear_ne (c := 1) (o := 2) (ps := [0, h, i]) (qs := [0 / e, e / e, f / e]) (by decide) rfl rfl rfl]
  have ea : e / e = 1 := by grind
  have ez : (0 : Rat) / e = 0 := by grind
  simp [cellM, List.zipWith, ea, ez]
  grind
theorem turnd2 {c f i t : Rat} (hi : i ≠ 0) : turnM 3 2 [[1, 0, c], [0, 1, f], [0, 0, i]] t =
    some ([[1, 0, 0], [0, 1, 0], [0, 0, 1]], t * i) := by
  have e0 : pivotIn [[1, 0, c], [0, 1, f], [0, 0, i]] 2 1 2 = some 2 := by simp [pivotIn, hi]
  unfold turnM
  simp only [List.length_cons, List.length_nil, Nat.zero_add, Nat.reduceAdd, Nat.reduceSub, e0, if_true]
  simp only [clearTo, normM, cellM, List.getD_cons_zero, List.getD_cons_succ, List.map, List.set_cons_zero, List.set_cons_succ]
  rw [clear_ne (c := 2) (o := 0) (ps := [1, 0, c]) (qs := [0 / i, 0 / i, i / i]) (by decide) rfl rfl rfl]
  rw [clear_ne (c := 2) (o := 1) (ps := [0, 1, f]) (qs := [0 / i, 0 / i, i / i]) (by decide) rfl rfl rfl, clear_eq]
  have ea : i / i = 1 := by grind
  have ez : (0 : Rat) / i = 0 := by grind
  simp [cellM, List.zipWith, ea, ez]
  grind
theorem det3 {a b c d e f g h i : Rat} (h1 : a ≠ 0) (h2 : a * e - b * d ≠ 0) (h3 : a * (e * i - f * h) - b * (d * i - f * g) + c * (d * h - e * g) ≠ 0) :
    (solveM 3 3 0 [[a, b, c], [d, e, f], [g, h, i]] 1).2 = a * (e * i - f * h) - b * (d * i - f * g) + c * (d * h - e * g) := by
  have k2 : e - d * (b / a) ≠ 0 := by grind
  have k3 : i - g * (c / a) - (h - g * (b / a)) * ((f - d * (c / a)) / (e - d * (b / a))) ≠ 0 := by grind
  unfold solveM
  rw [turnd0 h1]
  simp only
  unfold solveM
  rw [turnd1 k2]
  simp only
  unfold solveM
  rw [turnd2 k3]
  simp only
  unfold solveM
  simp only
  grind
end Mine
-- Lap
set_option maxRecDepth 100000
set_option maxHeartbeats 4000000
namespace Mine
/-- the grid of the lines m0 .. m5, as the loop makes it -/
noncomputable def gridL (m0 m1 m2 m3 m4 m5 : Int) : List (List Int) :=
  [[0 + m0 + m1 + m2, 0 - m0, 0 - m1, 0 - m2], [0 - m0, 0 + m0 + m3 + m4, 0 - m3, 0 - m4], [0 - m1, 0 - m3, 0 + m1 + m3 + m5, 0 - m5], [0 - m2, 0 - m4, 0 - m5, 0 + m2 + m4 + m5]]
noncomputable def det3I (a b c d e f g h i : Int) : Int := a * (e * i - f * h) - b * (d * i - f * g) + c * (d * h - e * g)
noncomputable def det2I (a b d e : Int) : Int := a * e - b * d
/-- the trees -/
noncomputable def treesN (m0 m1 m2 m3 m4 m5 : Nat) : Nat := m0 * m3 * m5 + (m0 * m1 * m2 + m0 * m1 * m4 + m0 * m1 * m5 + m0 * m2 * m3 + m0 * m2 * m5 + m0 * m3 * m4 + m0 * m4 * m5 + m1 * m2 * m3 + m1 * m2 * m4 + m1 * m3 * m4 + m1 * m3 * m5 + m1 * m4 * m5 + m2 * m3 * m4 + m2 * m3 * m5 + m2 * m4 * m5)
/-- the forests of two trees that part the two points of line j -/
noncomputable def partN (m0 m1 m2 m3 m4 m5 : Nat) : Nat → Nat
  | 0 => m3 * m5 + (m1 * m2 + m1 * m4 + m1 * m5 + m2 * m3 + m2 * m5 + m3 * m4 + m4 * m5)
  | 1 => m0 * m5 + (m0 * m2 + m0 * m4 + m2 * m3 + m2 * m4 + m3 * m4 + m3 * m5 + m4 * m5)
  | 2 => m0 * m3 + (m0 * m1 + m0 * m5 + m1 * m3 + m1 * m4 + m3 * m4 + m3 * m5 + m4 * m5)
  | 3 => m0 * m5 + (m0 * m2 + m0 * m4 + m1 * m2 + m1 * m4 + m1 * m5 + m2 * m4 + m2 * m5)
  | 4 => m0 * m3 + (m0 * m1 + m0 * m5 + m1 * m2 + m1 * m3 + m1 * m5 + m2 * m3 + m2 * m5)
  | _ => m0 * m3 + (m0 * m1 + m0 * m2 + m0 * m4 + m1 * m3 + m1 * m4 + m2 * m3 + m2 * m4)
/-- the grid less a point, with a unit that comes in at one -/
noncomputable def augM (G : List (List Int)) (ks : List Int) (one : Int) : Mat := ks.map fun z => (ks.map fun u => ((cellI G z u : Int) : Rat)) ++ [if z = one then 1 else 0]
theorem det3_int {a b c d e f g h i : Int} (h1 : a ≠ 0) (h2 : det2I a b d e ≠ 0) (h3 : det3I a b c d e f g h i ≠ 0) :
    (solveM 3 3 0 (ratM [[a, b, c], [d, e, f], [g, h, i]]) 1).2 = ((det3I a b c d e f g h i : Int) : Rat) := by
  have k1 : (a : Rat) ≠ 0 := by exact_mod_cast h1
  have k2 : (a : Rat) * e - b * d ≠ 0 := by unfold det2I at h2; exact_mod_cast h2
  have k3 : (a : Rat) * (e * i - f * h) - b * (d * i - f * g) + c * (d * h - e * g) ≠ 0 := by unfold det3I at h3; exact_mod_cast h3
  show (solveM 3 3 0 [[(a : Rat), b, c], [(d : Rat), e, f], [(g : Rat), h, i]] 1).2 = _
  rw [det3 k1 k2 k3]
  unfold det3I
  push_cast
  rfl
theorem solve3_int {a b c d e f g h i : Int} {p q r : Rat} (h1 : a ≠ 0) (h2 : det2I a b d e ≠ 0) (h3 : det3I a b c d e f g h i ≠ 0) :
    (solveM 3 3 0 [[(a : Rat), b, c, p], [(d : Rat), e, f, q], [(g : Rat), h, i, r]] 1).1 =
      [[1, 0, 0, (p * (e * i - f * h) - b * (q * i - f * r) + c * (q * h - e * r)) / ((det3I a b c d e f g h i : Int) : Rat)],
       [0, 1, 0, (a * (q * i - f * r) - p * (d * i - f * g) + c * (d * r - q * g)) / ((det3I a b c d e f g h i : Int) : Rat)],
       [0, 0, 1, (a * (e * r - q * h) - b * (d * r - q * g) + p * (d * h - e * g)) / ((det3I a b c d e f g h i : Int) : Rat)]] := by
  have k1 : (a : Rat) ≠ 0 := by exact_mod_cast h1
  have k2 : (a : Rat) * e - b * d ≠ 0 := by unfold det2I at h2; exact_mod_cast h2
  have k3 : (a : Rat) * (e * i - f * h) - b * (d * i - f * g) + c * (d * h - e * g) ≠ 0 := by unfold det3I at h3; exact_mod_cast h3
  rw [solve3 k1 k2 k3]
  have e3 : ((det3I a b c d e f g h i : Int) : Rat) = (a : Rat) * (e * i - f * h) - b * (d * i - f * g) + c * (d * h - e * g) := by unfold det3I; push_cast; rfl
  rw [e3]
/-- what the law asks of the line between a and b -/
structure PairOk (G : List (List Int)) (a b : Int) (D T : Nat) : Prop where
  l1 : (but1 b).length = 3
  l1' : (but1 a).length = 3
  l2 : (but2 a b).length = 2
  d2 : (solveM 2 2 0 (ratM (cutM G (but2 a b))) 1).2 = (((D : Nat) : Int) : Rat)
  d3 : (solveM 3 3 0 (ratM (cutM G (but1 b))) 1).2 = (((T : Nat) : Int) : Rat)
  s1 : ∃ (k : Nat) (qs : List Rat), (but1 b)[k]? = some a ∧ (∀ i : Nat, i < k → (but1 b)[i]? ≠ some a) ∧ (solveM 3 3 0 (augM G (but1 b) a) 1).1[k]? = some qs ∧ qs[3]? = some (Rat.divInt ((D : Nat) : Int) ((T : Nat) : Int))
  s2 : ∃ (k : Nat) (qs : List Rat), (but1 a)[k]? = some b ∧ (∀ i : Nat, i < k → (but1 a)[i]? ≠ some b) ∧ (solveM 3 3 0 (augM G (but1 a) b) 1).1[k]? = some qs ∧ qs[3]? = some (Rat.divInt ((D : Nat) : Int) ((T : Nat) : Int))
section
theorem trees_pos (m0 m1 m2 m3 m4 m5 : Nat) (h0 : 1 ≤ m0) (h3 : 1 ≤ m3) (h5 : 1 ≤ m5) : 1 ≤ treesN m0 m1 m2 m3 m4 m5 := Nat.le_trans (Nat.mul_pos (Nat.mul_pos h0 h3) h5) (Nat.le_add_right _ _)
theorem part_pos0 (m0 m1 m2 m3 m4 m5 : Nat) (h0 : 1 ≤ m0) (h3 : 1 ≤ m3) (h5 : 1 ≤ m5) : 1 ≤ partN m0 m1 m2 m3 m4 m5 0 := Nat.le_trans (Nat.mul_pos h3 h5) (Nat.le_add_right _ _)
theorem part_pos1 (m0 m1 m2 m3 m4 m5 : Nat) (h0 : 1 ≤ m0) (h3 : 1 ≤ m3) (h5 : 1 ≤ m5) : 1 ≤ partN m0 m1 m2 m3 m4 m5 1 := Nat.le_trans (Nat.mul_pos h0 h5) (Nat.le_add_right _ _)
theorem part_pos2 (m0 m1 m2 m3 m4 m5 : Nat) (h0 : 1 ≤ m0) (h3 : 1 ≤ m3) (h5 : 1 ≤ m5) : 1 ≤ partN m0 m1 m2 m3 m4 m5 2 := Nat.le_trans (Nat.mul_pos h0 h3) (Nat.le_add_right _ _)
theorem part_pos3 (m0 m1 m2 m3 m4 m5 : Nat) (h0 : 1 ≤ m0) (h3 : 1 ≤ m3) (h5 : 1 ≤ m5) : 1 ≤ partN m0 m1 m2 m3 m4 m5 3 := Nat.le_trans (Nat.mul_pos h0 h5) (Nat.le_add_right _ _)
theorem part_pos4 (m0 m1 m2 m3 m4 m5 : Nat) (h0 : 1 ≤ m0) (h3 : 1 ≤ m3) (h5 : 1 ≤ m5) : 1 ≤ partN m0 m1 m2 m3 m4 m5 4 := Nat.le_trans (Nat.mul_pos h0 h3) (Nat.le_add_right _ _)
theorem part_pos5 (m0 m1 m2 m3 m4 m5 : Nat) (h0 : 1 ≤ m0) (h3 : 1 ≤ m3) (h5 : 1 ≤ m5) : 1 ≤ partN m0 m1 m2 m3 m4 m5 5 := Nat.le_trans (Nat.mul_pos h0 h3) (Nat.le_add_right _ _)
theorem cut3_0 (m0 m1 m2 m3 m4 m5 : Nat) : det3I (0 + (m0 : Int) + (m3 : Int) + (m4 : Int)) (0 - (m3 : Int)) (0 - (m4 : Int)) (0 - (m3 : Int)) (0 + (m1 : Int) + (m3 : Int) + (m5 : Int)) (0 - (m5 : Int)) (0 - (m4 : Int)) (0 - (m5 : Int)) (0 + (m2 : Int) + (m4 : Int) + (m5 : Int)) = ((treesN m0 m1 m2 m3 m4 m5 : Nat) : Int) := by
  unfold det3I treesN
  push_cast
  grind
theorem cut2_0 (m0 m1 m2 m3 m4 m5 : Nat) : det2I (0 + (m0 : Int) + (m3 : Int) + (m4 : Int)) (0 - (m3 : Int)) (0 - (m3 : Int)) (0 + (m1 : Int) + (m3 : Int) + (m5 : Int)) = ((partN m0 m1 m2 m3 m4 m5 2 : Nat) : Int) := by
  unfold det2I partN
  push_cast
  grind
theorem cut3_1 (m0 m1 m2 m3 m4 m5 : Nat) : det3I (0 + (m0 : Int) + (m1 : Int) + (m2 : Int)) (0 - (m1 : Int)) (0 - (m2 : Int)) (0 - (m1 : Int)) (0 + (m1 : Int) + (m3 : Int) + (m5 : Int)) (0 - (m5 : Int)) (0 - (m2 : Int)) (0 - (m5 : Int)) (0 + (m2 : Int) + (m4 : Int) + (m5 : Int)) = ((treesN m0 m1 m2 m3 m4 m5 : Nat) : Int) := by
  unfold det3I treesN
  push_cast
  grind
theorem cut2_1 (m0 m1 m2 m3 m4 m5 : Nat) : det2I (0 + (m0 : Int) + (m1 : Int) + (m2 : Int)) (0 - (m1 : Int)) (0 - (m1 : Int)) (0 + (m1 : Int) + (m3 : Int) + (m5 : Int)) = ((partN m0 m1 m2 m3 m4 m5 4 : Nat) : Int) := by
  unfold det2I partN
  push_cast
  grind
theorem cut3_2 (m0 m1 m2 m3 m4 m5 : Nat) : det3I (0 + (m0 : Int) + (m1 : Int) + (m2 : Int)) (0 - (m0 : Int)) (0 - (m2 : Int)) (0 - (m0 : Int)) (0 + (m0 : Int) + (m3 : Int) + (m4 : Int)) (0 - (m4 : Int)) (0 - (m2 : Int)) (0 - (m4 : Int)) (0 + (m2 : Int) + (m4 : Int) + (m5 : Int)) = ((treesN m0 m1 m2 m3 m4 m5 : Nat) : Int) := by
  unfold det3I treesN
  push_cast
  grind
theorem cut2_2 (m0 m1 m2 m3 m4 m5 : Nat) : det2I (0 + (m0 : Int) + (m1 : Int) + (m2 : Int)) (0 - (m0 : Int)) (0 - (m0 : Int)) (0 + (m0 : Int) + (m3 : Int) + (m4 : Int)) = ((partN m0 m1 m2 m3 m4 m5 5 : Nat) : Int) := by
  unfold det2I partN
  push_cast
  grind
theorem cut3_3 (m0 m1 m2 m3 m4 m5 : Nat) : det3I (0 + (m0 : Int) + (m1 : Int) + (m2 : Int)) (0 - (m0 : Int)) (0 - (m1 : Int)) (0 - (m0 : Int)) (0 + (m0 : Int) + (m3 : Int) + (m4 : Int)) (0 - (m3 : Int)) (0 - (m1 : Int)) (0 - (m3 : Int)) (0 + (m1 : Int) + (m3 : Int) + (m5 : Int)) = ((treesN m0 m1 m2 m3 m4 m5 : Nat) : Int) := by
  unfold det3I treesN
  push_cast
  grind
theorem cut2_3 (m0 m1 m2 m3 m4 m5 : Nat) : det2I (0 + (m0 : Int) + (m1 : Int) + (m2 : Int)) (0 - (m0 : Int)) (0 - (m0 : Int)) (0 + (m0 : Int) + (m3 : Int) + (m4 : Int)) = ((partN m0 m1 m2 m3 m4 m5 5 : Nat) : Int) := by
  unfold det2I partN
  push_cast
  grind
theorem pair2_0 (m0 m1 m2 m3 m4 m5 : Nat) : det2I (0 + (m1 : Int) + (m3 : Int) + (m5 : Int)) (0 - (m5 : Int)) (0 - (m5 : Int)) (0 + (m2 : Int) + (m4 : Int) + (m5 : Int)) = ((partN m0 m1 m2 m3 m4 m5 0 : Nat) : Int) := by
  unfold det2I partN
  push_cast
  grind
theorem pair2_1 (m0 m1 m2 m3 m4 m5 : Nat) : det2I (0 + (m0 : Int) + (m3 : Int) + (m4 : Int)) (0 - (m4 : Int)) (0 - (m4 : Int)) (0 + (m2 : Int) + (m4 : Int) + (m5 : Int)) = ((partN m0 m1 m2 m3 m4 m5 1 : Nat) : Int) := by
  unfold det2I partN
  push_cast
  grind
theorem pair2_2 (m0 m1 m2 m3 m4 m5 : Nat) : det2I (0 + (m0 : Int) + (m3 : Int) + (m4 : Int)) (0 - (m3 : Int)) (0 - (m3 : Int)) (0 + (m1 : Int) + (m3 : Int) + (m5 : Int)) = ((partN m0 m1 m2 m3 m4 m5 2 : Nat) : Int) := by
  unfold det2I partN
  push_cast
  grind
theorem pair2_3 (m0 m1 m2 m3 m4 m5 : Nat) : det2I (0 + (m0 : Int) + (m1 : Int) + (m2 : Int)) (0 - (m2 : Int)) (0 - (m2 : Int)) (0 + (m2 : Int) + (m4 : Int) + (m5 : Int)) = ((partN m0 m1 m2 m3 m4 m5 3 : Nat) : Int) := by
  unfold det2I partN
  push_cast
  grind
theorem pair2_4 (m0 m1 m2 m3 m4 m5 : Nat) : det2I (0 + (m0 : Int) + (m1 : Int) + (m2 : Int)) (0 - (m1 : Int)) (0 - (m1 : Int)) (0 + (m1 : Int) + (m3 : Int) + (m5 : Int)) = ((partN m0 m1 m2 m3 m4 m5 4 : Nat) : Int) := by
  unfold det2I partN
  push_cast
  grind
theorem pair2_5 (m0 m1 m2 m3 m4 m5 : Nat) : det2I (0 + (m0 : Int) + (m1 : Int) + (m2 : Int)) (0 - (m0 : Int)) (0 - (m0 : Int)) (0 + (m0 : Int) + (m3 : Int) + (m4 : Int)) = ((partN m0 m1 m2 m3 m4 m5 5 : Nat) : Int) := by
  unfold det2I partN
  push_cast
  grind
theorem first_0 (m0 m1 m2 m3 m4 m5 : Nat) (h0 : 1 ≤ m0) (h3 : 1 ≤ m3) (h5 : 1 ≤ m5) : (0 + (m0 : Int) + (m3 : Int) + (m4 : Int)) ≠ 0 := by lia
theorem minor_0 (m0 m1 m2 m3 m4 m5 : Nat) (h0 : 1 ≤ m0) (h3 : 1 ≤ m3) (h5 : 1 ≤ m5) : det2I (0 + (m0 : Int) + (m3 : Int) + (m4 : Int)) (0 - (m3 : Int)) (0 - (m3 : Int)) (0 + (m1 : Int) + (m3 : Int) + (m5 : Int)) ≠ 0 := by
  rw [cut2_0 m0 m1 m2 m3 m4 m5]
  have := part_pos2 m0 m1 m2 m3 m4 m5 h0 h3 h5
  lia
theorem third_0 (m0 m1 m2 m3 m4 m5 : Nat) (h0 : 1 ≤ m0) (h3 : 1 ≤ m3) (h5 : 1 ≤ m5) : det3I (0 + (m0 : Int) + (m3 : Int) + (m4 : Int)) (0 - (m3 : Int)) (0 - (m4 : Int)) (0 - (m3 : Int)) (0 + (m1 : Int) + (m3 : Int) + (m5 : Int)) (0 - (m5 : Int)) (0 - (m4 : Int)) (0 - (m5 : Int)) (0 + (m2 : Int) + (m4 : Int) + (m5 : Int)) ≠ 0 := by
  rw [cut3_0 m0 m1 m2 m3 m4 m5]
  have := trees_pos m0 m1 m2 m3 m4 m5 h0 h3 h5
  lia
theorem first_1 (m0 m1 m2 m3 m4 m5 : Nat) (h0 : 1 ≤ m0) (h3 : 1 ≤ m3) (h5 : 1 ≤ m5) : (0 + (m0 : Int) + (m1 : Int) + (m2 : Int)) ≠ 0 := by lia
theorem minor_1 (m0 m1 m2 m3 m4 m5 : Nat) (h0 : 1 ≤ m0) (h3 : 1 ≤ m3) (h5 : 1 ≤ m5) : det2I (0 + (m0 : Int) + (m1 : Int) + (m2 : Int)) (0 - (m1 : Int)) (0 - (m1 : Int)) (0 + (m1 : Int) + (m3 : Int) + (m5 : Int)) ≠ 0 := by
  rw [cut2_1 m0 m1 m2 m3 m4 m5]
  have := part_pos4 m0 m1 m2 m3 m4 m5 h0 h3 h5
  lia
theorem third_1 (m0 m1 m2 m3 m4 m5 : Nat) (h0 : 1 ≤ m0) (h3 : 1 ≤ m3) (h5 : 1 ≤ m5) : det3I (0 + (m0 : Int) + (m1 : Int) + (m2 : Int)) (0 - (m1 : Int)) (0 - (m2 : Int)) (0 - (m1 : Int)) (0 + (m1 : Int) + (m3 : Int) + (m5 : Int)) (0 - (m5 : Int)) (0 - (m2 : Int)) (0 - (m5 : Int)) (0 + (m2 : Int) + (m4 : Int) + (m5 : Int)) ≠ 0 := by
  rw [cut3_1 m0 m1 m2 m3 m4 m5]
  have := trees_pos m0 m1 m2 m3 m4 m5 h0 h3 h5
  lia
theorem first_2 (m0 m1 m2 m3 m4 m5 : Nat) (h0 : 1 ≤ m0) (h3 : 1 ≤ m3) (h5 : 1 ≤ m5) : (0 + (m0 : Int) + (m1 : Int) + (m2 : Int)) ≠ 0 := by lia
theorem minor_2 (m0 m1 m2 m3 m4 m5 : Nat) (h0 : 1 ≤ m0) (h3 : 1 ≤ m3) (h5 : 1 ≤ m5) : det2I (0 + (m0 : Int) + (m1 : Int) + (m2 : Int)) (0 - (m0 : Int)) (0 - (m0 : Int)) (0 + (m0 : Int) + (m3 : Int) + (m4 : Int)) ≠ 0 := by
  rw [cut2_2 m0 m1 m2 m3 m4 m5]
  have := part_pos5 m0 m1 m2 m3 m4 m5 h0 h3 h5
  lia
theorem third_2 (m0 m1 m2 m3 m4 m5 : Nat) (h0 : 1 ≤ m0) (h3 : 1 ≤ m3) (h5 : 1 ≤ m5) : det3I (0 + (m0 : Int) + (m1 : Int) + (m2 : Int)) (0 - (m0 : Int)) (0 - (m2 : Int)) (0 - (m0 : Int)) (0 + (m0 : Int) + (m3 : Int) + (m4 : Int)) (0 - (m4 : Int)) (0 - (m2 : Int)) (0 - (m4 : Int)) (0 + (m2 : Int) + (m4 : Int) + (m5 : Int)) ≠ 0 := by
  rw [cut3_2 m0 m1 m2 m3 m4 m5]
  have := trees_pos m0 m1 m2 m3 m4 m5 h0 h3 h5
  lia
theorem first_3 (m0 m1 m2 m3 m4 m5 : Nat) (h0 : 1 ≤ m0) (h3 : 1 ≤ m3) (h5 : 1 ≤ m5) : (0 + (m0 : Int) + (m1 : Int) + (m2 : Int)) ≠ 0 := by lia
theorem minor_3 (m0 m1 m2 m3 m4 m5 : Nat) (h0 : 1 ≤ m0) (h3 : 1 ≤ m3) (h5 : 1 ≤ m5) : det2I (0 + (m0 : Int) + (m1 : Int) + (m2 : Int)) (0 - (m0 : Int)) (0 - (m0 : Int)) (0 + (m0 : Int) + (m3 : Int) + (m4 : Int)) ≠ 0 := by
  rw [cut2_3 m0 m1 m2 m3 m4 m5]
  have := part_pos5 m0 m1 m2 m3 m4 m5 h0 h3 h5
  lia
theorem third_3 (m0 m1 m2 m3 m4 m5 : Nat) (h0 : 1 ≤ m0) (h3 : 1 ≤ m3) (h5 : 1 ≤ m5) : det3I (0 + (m0 : Int) + (m1 : Int) + (m2 : Int)) (0 - (m0 : Int)) (0 - (m1 : Int)) (0 - (m0 : Int)) (0 + (m0 : Int) + (m3 : Int) + (m4 : Int)) (0 - (m3 : Int)) (0 - (m1 : Int)) (0 - (m3 : Int)) (0 + (m1 : Int) + (m3 : Int) + (m5 : Int)) ≠ 0 := by
  rw [cut3_3 m0 m1 m2 m3 m4 m5]
  have := trees_pos m0 m1 m2 m3 m4 m5 h0 h3 h5
  lia
theorem divI (D T : Int) : Rat.divInt D T = (D : Rat) / (T : Rat) := by
  rw [Rat.divInt_eq_div]
theorem pairOk_0 (m0 m1 m2 m3 m4 m5 : Nat) (h0 : 1 ≤ m0) (h3 : 1 ≤ m3) (h5 : 1 ≤ m5) : PairOk (gridL m0 m1 m2 m3 m4 m5) 0 1 (partN m0 m1 m2 m3 m4 m5 0) (treesN m0 m1 m2 m3 m4 m5) where
  l1 := by decide
  l1' := by decide
  l2 := by decide
  d2 := by
    rw [← pair2_0 m0 m1 m2 m3 m4 m5]
    exact det2_int _ _ _ _
  d3 := by
    rw [← cut3_1 m0 m1 m2 m3 m4 m5]
    exact det3_int (first_1 m0 m1 m2 m3 m4 m5 h0 h3 h5) (minor_1 m0 m1 m2 m3 m4 m5 h0 h3 h5) (third_1 m0 m1 m2 m3 m4 m5 h0 h3 h5)
  s1 := by
    have hS : (solveM 3 3 0 (augM (gridL m0 m1 m2 m3 m4 m5) (but1 1) 0) 1).1 = _ := solve3_int (p := 1) (q := 0) (r := 0) (first_1 m0 m1 m2 m3 m4 m5 h0 h3 h5) (minor_1 m0 m1 m2 m3 m4 m5 h0 h3 h5) (third_1 m0 m1 m2 m3 m4 m5 h0 h3 h5)
    refine ⟨0, _, rfl, by decide, Eq.trans (congrArg (fun M : Mat => M[0]?) hS) rfl, ?_⟩
    refine congrArg some ?_
    refine Eq.trans (b := (1 * ((((0 + (m1 : Int) + (m3 : Int) + (m5 : Int)) : Int) : Rat) * (((0 + (m2 : Int) + (m4 : Int) + (m5 : Int)) : Int) : Rat) - (((0 - (m5 : Int)) : Int) : Rat) * (((0 - (m5 : Int)) : Int) : Rat)) - (((0 - (m1 : Int)) : Int) : Rat) * (0 * (((0 + (m2 : Int) + (m4 : Int) + (m5 : Int)) : Int) : Rat) - (((0 - (m5 : Int)) : Int) : Rat) * 0) + (((0 - (m2 : Int)) : Int) : Rat) * (0 * (((0 - (m5 : Int)) : Int) : Rat) - (((0 + (m1 : Int) + (m3 : Int) + (m5 : Int)) : Int) : Rat) * 0)) / ((det3I (0 + (m0 : Int) + (m1 : Int) + (m2 : Int)) (0 - (m1 : Int)) (0 - (m2 : Int)) (0 - (m1 : Int)) (0 + (m1 : Int) + (m3 : Int) + (m5 : Int)) (0 - (m5 : Int)) (0 - (m2 : Int)) (0 - (m5 : Int)) (0 + (m2 : Int) + (m4 : Int) + (m5 : Int)) : Int) : Rat)) rfl ?_
    rw [divI, ← pair2_0 m0 m1 m2 m3 m4 m5, ← cut3_1 m0 m1 m2 m3 m4 m5]
    congr 1
    unfold det2I
    push_cast
    grind
  s2 := by
    have hS : (solveM 3 3 0 (augM (gridL m0 m1 m2 m3 m4 m5) (but1 0) 1) 1).1 = _ := solve3_int (p := 1) (q := 0) (r := 0) (first_0 m0 m1 m2 m3 m4 m5 h0 h3 h5) (minor_0 m0 m1 m2 m3 m4 m5 h0 h3 h5) (third_0 m0 m1 m2 m3 m4 m5 h0 h3 h5)
    refine ⟨0, _, rfl, by decide, Eq.trans (congrArg (fun M : Mat => M[0]?) hS) rfl, ?_⟩
    refine congrArg some ?_
    refine Eq.trans (b := (1 * ((((0 + (m1 : Int) + (m3 : Int) + (m5 : Int)) : Int) : Rat) * (((0 + (m2 : Int) + (m4 : Int) + (m5 : Int)) : Int) : Rat) - (((0 - (m5 : Int)) : Int) : Rat) * (((0 - (m5 : Int)) : Int) : Rat)) - (((0 - (m3 : Int)) : Int) : Rat) * (0 * (((0 + (m2 : Int) + (m4 : Int) + (m5 : Int)) : Int) : Rat) - (((0 - (m5 : Int)) : Int) : Rat) * 0) + (((0 - (m4 : Int)) : Int) : Rat) * (0 * (((0 - (m5 : Int)) : Int) : Rat) - (((0 + (m1 : Int) + (m3 : Int) + (m5 : Int)) : Int) : Rat) * 0)) / ((det3I (0 + (m0 : Int) + (m3 : Int) + (m4 : Int)) (0 - (m3 : Int)) (0 - (m4 : Int)) (0 - (m3 : Int)) (0 + (m1 : Int) + (m3 : Int) + (m5 : Int)) (0 - (m5 : Int)) (0 - (m4 : Int)) (0 - (m5 : Int)) (0 + (m2 : Int) + (m4 : Int) + (m5 : Int)) : Int) : Rat)) rfl ?_
    rw [divI, ← pair2_0 m0 m1 m2 m3 m4 m5, ← cut3_0 m0 m1 m2 m3 m4 m5]
    congr 1
    unfold det2I
    push_cast
    grind
theorem pairOk_1 (m0 m1 m2 m3 m4 m5 : Nat) (h0 : 1 ≤ m0) (h3 : 1 ≤ m3) (h5 : 1 ≤ m5) : PairOk (gridL m0 m1 m2 m3 m4 m5) 0 2 (partN m0 m1 m2 m3 m4 m5 1) (treesN m0 m1 m2 m3 m4 m5) where
  l1 := by decide
  l1' := by decide
  l2 := by decide
  d2 := by
    rw [← pair2_1 m0 m1 m2 m3 m4 m5]
    exact det2_int _ _ _ _
  d3 := by
    rw [← cut3_2 m0 m1 m2 m3 m4 m5]
    exact det3_int (first_2 m0 m1 m2 m3 m4 m5 h0 h3 h5) (minor_2 m0 m1 m2 m3 m4 m5 h0 h3 h5) (third_2 m0 m1 m2 m3 m4 m5 h0 h3 h5)
  s1 := by
    have hS : (solveM 3 3 0 (augM (gridL m0 m1 m2 m3 m4 m5) (but1 2) 0) 1).1 = _ := solve3_int (p := 1) (q := 0) (r := 0) (first_2 m0 m1 m2 m3 m4 m5 h0 h3 h5) (minor_2 m0 m1 m2 m3 m4 m5 h0 h3 h5) (third_2 m0 m1 m2 m3 m4 m5 h0 h3 h5)
    refine ⟨0, _, rfl, by decide, Eq.trans (congrArg (fun M : Mat => M[0]?) hS) rfl, ?_⟩
    refine congrArg some ?_
    refine Eq.trans (b := (1 * ((((0 + (m0 : Int) + (m3 : Int) + (m4 : Int)) : Int) : Rat) * (((0 + (m2 : Int) + (m4 : Int) + (m5 : Int)) : Int) : Rat) - (((0 - (m4 : Int)) : Int) : Rat) * (((0 - (m4 : Int)) : Int) : Rat)) - (((0 - (m0 : Int)) : Int) : Rat) * (0 * (((0 + (m2 : Int) + (m4 : Int) + (m5 : Int)) : Int) : Rat) - (((0 - (m4 : Int)) : Int) : Rat) * 0) + (((0 - (m2 : Int)) : Int) : Rat) * (0 * (((0 - (m4 : Int)) : Int) : Rat) - (((0 + (m0 : Int) + (m3 : Int) + (m4 : Int)) : Int) : Rat) * 0)) / ((det3I (0 + (m0 : Int) + (m1 : Int) + (m2 : Int)) (0 - (m0 : Int)) (0 - (m2 : Int)) (0 - (m0 : Int)) (0 + (m0 : Int) + (m3 : Int) + (m4 : Int)) (0 - (m4 : Int)) (0 - (m2 : Int)) (0 - (m4 : Int)) (0 + (m2 : Int) + (m4 : Int) + (m5 : Int)) : Int) : Rat)) rfl ?_
    rw [divI, ← pair2_1 m0 m1 m2 m3 m4 m5, ← cut3_2 m0 m1 m2 m3 m4 m5]
    congr 1
    unfold det2I
    push_cast
    grind
  s2 := by
    have hS : (solveM 3 3 0 (augM (gridL m0 m1 m2 m3 m4 m5) (but1 0) 2) 1).1 = _ := solve3_int (p := 0) (q := 1) (r := 0) (first_0 m0 m1 m2 m3 m4 m5 h0 h3 h5) (minor_0 m0 m1 m2 m3 m4 m5 h0 h3 h5) (third_0 m0 m1 m2 m3 m4 m5 h0 h3 h5)
    refine ⟨1, _, rfl, by decide, Eq.trans (congrArg (fun M : Mat => M[1]?) hS) rfl, ?_⟩
    refine congrArg some ?_
    refine Eq.trans (b := ((((0 + (m0 : Int) + (m3 : Int) + (m4 : Int)) : Int) : Rat) * (1 * (((0 + (m2 : Int) + (m4 : Int) + (m5 : Int)) : Int) : Rat) - (((0 - (m5 : Int)) : Int) : Rat) * 0) - 0 * ((((0 - (m3 : Int)) : Int) : Rat) * (((0 + (m2 : Int) + (m4 : Int) + (m5 : Int)) : Int) : Rat) - (((0 - (m5 : Int)) : Int) : Rat) * (((0 - (m4 : Int)) : Int) : Rat)) + (((0 - (m4 : Int)) : Int) : Rat) * ((((0 - (m3 : Int)) : Int) : Rat) * 0 - 1 * (((0 - (m4 : Int)) : Int) : Rat))) / ((det3I (0 + (m0 : Int) + (m3 : Int) + (m4 : Int)) (0 - (m3 : Int)) (0 - (m4 : Int)) (0 - (m3 : Int)) (0 + (m1 : Int) + (m3 : Int) + (m5 : Int)) (0 - (m5 : Int)) (0 - (m4 : Int)) (0 - (m5 : Int)) (0 + (m2 : Int) + (m4 : Int) + (m5 : Int)) : Int) : Rat)) rfl ?_
    rw [divI, ← pair2_1 m0 m1 m2 m3 m4 m5, ← cut3_0 m0 m1 m2 m3 m4 m5]
    congr 1
    unfold det2I
    push_cast
    grind
theorem pairOk_2 (m0 m1 m2 m3 m4 m5 : Nat) (h0 : 1 ≤ m0) (h3 : 1 ≤ m3) (h5 : 1 ≤ m5) : PairOk (gridL m0 m1 m2 m3 m4 m5) 0 3 (partN m0 m1 m2 m3 m4 m5 2) (treesN m0 m1 m2 m3 m4 m5) where
  l1 := by decide
  l1' := by decide
  l2 := by decide
  d2 := by
    rw [← pair2_2 m0 m1 m2 m3 m4 m5]
    exact det2_int _ _ _ _
  d3 := by
    rw [← cut3_3 m0 m1 m2 m3 m4 m5]
    exact det3_int (first_3 m0 m1 m2 m3 m4 m5 h0 h3 h5) (minor_3 m0 m1 m2 m3 m4 m5 h0 h3 h5) (third_3 m0 m1 m2 m3 m4 m5 h0 h3 h5)
  s1 := by
    have hS : (solveM 3 3 0 (augM (gridL m0 m1 m2 m3 m4 m5) (but1 3) 0) 1).1 = _ := solve3_int (p := 1) (q := 0) (r := 0) (first_3 m0 m1 m2 m3 m4 m5 h0 h3 h5) (minor_3 m0 m1 m2 m3 m4 m5 h0 h3 h5) (third_3 m0 m1 m2 m3 m4 m5 h0 h3 h5)
    refine ⟨0, _, rfl, by decide, Eq.trans (congrArg (fun M : Mat => M[0]?) hS) rfl, ?_⟩
    refine congrArg some ?_
    refine Eq.trans (b := (1 * ((((0 + (m0 : Int) + (m3 : Int) + (m4 : Int)) : Int) : Rat) * (((0 + (m1 : Int) + (m3 : Int) + (m5 : Int)) : Int) : Rat) - (((0 - (m3 : Int)) : Int) : Rat) * (((0 - (m3 : Int)) : Int) : Rat)) - (((0 - (m0 : Int)) : Int) : Rat) * (0 * (((0 + (m1 : Int) + (m3 : Int) + (m5 : Int)) : Int) : Rat) - (((0 - (m3 : Int)) : Int) : Rat) * 0) + (((0 - (m1 : Int)) : Int) : Rat) * (0 * (((0 - (m3 : Int)) : Int) : Rat) - (((0 + (m0 : Int) + (m3 : Int) + (m4 : Int)) : Int) : Rat) * 0)) / ((det3I (0 + (m0 : Int) + (m1 : Int) + (m2 : Int)) (0 - (m0 : Int)) (0 - (m1 : Int)) (0 - (m0 : Int)) (0 + (m0 : Int) + (m3 : Int) + (m4 : Int)) (0 - (m3 : Int)) (0 - (m1 : Int)) (0 - (m3 : Int)) (0 + (m1 : Int) + (m3 : Int) + (m5 : Int)) : Int) : Rat)) rfl ?_
    rw [divI, ← pair2_2 m0 m1 m2 m3 m4 m5, ← cut3_3 m0 m1 m2 m3 m4 m5]
    congr 1
    unfold det2I
    push_cast
    grind
  s2 := by
    have hS : (solveM 3 3 0 (augM (gridL m0 m1 m2 m3 m4 m5) (but1 0) 3) 1).1 = _ := solve3_int (p := 0) (q := 0) (r := 1) (first_0 m0 m1 m2 m3 m4 m5 h0 h3 h5) (minor_0 m0 m1 m2 m3 m4 m5 h0 h3 h5) (third_0 m0 m1 m2 m3 m4 m5 h0 h3 h5)
    refine ⟨2, _, rfl, by decide, Eq.trans (congrArg (fun M : Mat => M[2]?) hS) rfl, ?_⟩
    refine congrArg some ?_
    refine Eq.trans (b := ((((0 + (m0 : Int) + (m3 : Int) + (m4 : Int)) : Int) : Rat) * ((((0 + (m1 : Int) + (m3 : Int) + (m5 : Int)) : Int) : Rat) * 1 - 0 * (((0 - (m5 : Int)) : Int) : Rat)) - (((0 - (m3 : Int)) : Int) : Rat) * ((((0 - (m3 : Int)) : Int) : Rat) * 1 - 0 * (((0 - (m4 : Int)) : Int) : Rat)) + 0 * ((((0 - (m3 : Int)) : Int) : Rat) * (((0 - (m5 : Int)) : Int) : Rat) - (((0 + (m1 : Int) + (m3 : Int) + (m5 : Int)) : Int) : Rat) * (((0 - (m4 : Int)) : Int) : Rat))) / ((det3I (0 + (m0 : Int) + (m3 : Int) + (m4 : Int)) (0 - (m3 : Int)) (0 - (m4 : Int)) (0 - (m3 : Int)) (0 + (m1 : Int) + (m3 : Int) + (m5 : Int)) (0 - (m5 : Int)) (0 - (m4 : Int)) (0 - (m5 : Int)) (0 + (m2 : Int) + (m4 : Int) + (m5 : Int)) : Int) : Rat)) rfl ?_
    rw [divI, ← pair2_2 m0 m1 m2 m3 m4 m5, ← cut3_0 m0 m1 m2 m3 m4 m5]
    congr 1
    unfold det2I
    push_cast
    grind
theorem pairOk_3 (m0 m1 m2 m3 m4 m5 : Nat) (h0 : 1 ≤ m0) (h3 : 1 ≤ m3) (h5 : 1 ≤ m5) : PairOk (gridL m0 m1 m2 m3 m4 m5) 1 2 (partN m0 m1 m2 m3 m4 m5 3) (treesN m0 m1 m2 m3 m4 m5) where
  l1 := by decide
  l1' := by decide
  l2 := by decide
  d2 := by
    rw [← pair2_3 m0 m1 m2 m3 m4 m5]
    exact det2_int _ _ _ _
  d3 := by
    rw [← cut3_2 m0 m1 m2 m3 m4 m5]
    exact det3_int (first_2 m0 m1 m2 m3 m4 m5 h0 h3 h5) (minor_2 m0 m1 m2 m3 m4 m5 h0 h3 h5) (third_2 m0 m1 m2 m3 m4 m5 h0 h3 h5)
  s1 := by
    have hS : (solveM 3 3 0 (augM (gridL m0 m1 m2 m3 m4 m5) (but1 2) 1) 1).1 = _ := solve3_int (p := 0) (q := 1) (r := 0) (first_2 m0 m1 m2 m3 m4 m5 h0 h3 h5) (minor_2 m0 m1 m2 m3 m4 m5 h0 h3 h5) (third_2 m0 m1 m2 m3 m4 m5 h0 h3 h5)
    refine ⟨1, _, rfl, by decide, Eq.trans (congrArg (fun M : Mat => M[1]?) hS) rfl, ?_⟩
    refine congrArg some ?_
    refine Eq.trans (b := ((((0 + (m0 : Int) + (m1 : Int) + (m2 : Int)) : Int) : Rat) * (1 * (((0 + (m2 : Int) + (m4 : Int) + (m5 : Int)) : Int) : Rat) - (((0 - (m4 : Int)) : Int) : Rat) * 0) - 0 * ((((0 - (m0 : Int)) : Int) : Rat) * (((0 + (m2 : Int) + (m4 : Int) + (m5 : Int)) : Int) : Rat) - (((0 - (m4 : Int)) : Int) : Rat) * (((0 - (m2 : Int)) : Int) : Rat)) + (((0 - (m2 : Int)) : Int) : Rat) * ((((0 - (m0 : Int)) : Int) : Rat) * 0 - 1 * (((0 - (m2 : Int)) : Int) : Rat))) / ((det3I (0 + (m0 : Int) + (m1 : Int) + (m2 : Int)) (0 - (m0 : Int)) (0 - (m2 : Int)) (0 - (m0 : Int)) (0 + (m0 : Int) + (m3 : Int) + (m4 : Int)) (0 - (m4 : Int)) (0 - (m2 : Int)) (0 - (m4 : Int)) (0 + (m2 : Int) + (m4 : Int) + (m5 : Int)) : Int) : Rat)) rfl ?_
    rw [divI, ← pair2_3 m0 m1 m2 m3 m4 m5, ← cut3_2 m0 m1 m2 m3 m4 m5]
    congr 1
    unfold det2I
    push_cast
    grind
  s2 := by
    have hS : (solveM 3 3 0 (augM (gridL m0 m1 m2 m3 m4 m5) (but1 1) 2) 1).1 = _ := solve3_int (p := 0) (q := 1) (r := 0) (first_1 m0 m1 m2 m3 m4 m5 h0 h3 h5) (minor_1 m0 m1 m2 m3 m4 m5 h0 h3 h5) (third_1 m0 m1 m2 m3 m4 m5 h0 h3 h5)
    refine ⟨1, _, rfl, by decide, Eq.trans (congrArg (fun M : Mat => M[1]?) hS) rfl, ?_⟩
    refine congrArg some ?_
    refine Eq.trans (b := ((((0 + (m0 : Int) + (m1 : Int) + (m2 : Int)) : Int) : Rat) * (1 * (((0 + (m2 : Int) + (m4 : Int) + (m5 : Int)) : Int) : Rat) - (((0 - (m5 : Int)) : Int) : Rat) * 0) - 0 * ((((0 - (m1 : Int)) : Int) : Rat) * (((0 + (m2 : Int) + (m4 : Int) + (m5 : Int)) : Int) : Rat) - (((0 - (m5 : Int)) : Int) : Rat) * (((0 - (m2 : Int)) : Int) : Rat)) + (((0 - (m2 : Int)) : Int) : Rat) * ((((0 - (m1 : Int)) : Int) : Rat) * 0 - 1 * (((0 - (m2 : Int)) : Int) : Rat))) / ((det3I (0 + (m0 : Int) + (m1 : Int) + (m2 : Int)) (0 - (m1 : Int)) (0 - (m2 : Int)) (0 - (m1 : Int)) (0 + (m1 : Int) + (m3 : Int) + (m5 : Int)) (0 - (m5 : Int)) (0 - (m2 : Int)) (0 - (m5 : Int)) (0 + (m2 : Int) + (m4 : Int) + (m5 : Int)) : Int) : Rat)) rfl ?_
    rw [divI, ← pair2_3 m0 m1 m2 m3 m4 m5, ← cut3_1 m0 m1 m2 m3 m4 m5]
    congr 1
    unfold det2I
    push_cast
    grind
theorem pairOk_4 (m0 m1 m2 m3 m4 m5 : Nat) (h0 : 1 ≤ m0) (h3 : 1 ≤ m3) (h5 : 1 ≤ m5) : PairOk (gridL m0 m1 m2 m3 m4 m5) 1 3 (partN m0 m1 m2 m3 m4 m5 4) (treesN m0 m1 m2 m3 m4 m5) where
  l1 := by decide
  l1' := by decide
  l2 := by decide
  d2 := by
    rw [← pair2_4 m0 m1 m2 m3 m4 m5]
    exact det2_int _ _ _ _
  d3 := by
    rw [← cut3_3 m0 m1 m2 m3 m4 m5]
    exact det3_int (first_3 m0 m1 m2 m3 m4 m5 h0 h3 h5) (minor_3 m0 m1 m2 m3 m4 m5 h0 h3 h5) (third_3 m0 m1 m2 m3 m4 m5 h0 h3 h5)
  s1 := by
    have hS : (solveM 3 3 0 (augM (gridL m0 m1 m2 m3 m4 m5) (but1 3) 1) 1).1 = _ := solve3_int (p := 0) (q := 1) (r := 0) (first_3 m0 m1 m2 m3 m4 m5 h0 h3 h5) (minor_3 m0 m1 m2 m3 m4 m5 h0 h3 h5) (third_3 m0 m1 m2 m3 m4 m5 h0 h3 h5)
    refine ⟨1, _, rfl, by decide, Eq.trans (congrArg (fun M : Mat => M[1]?) hS) rfl, ?_⟩
    refine congrArg some ?_
    refine Eq.trans (b := ((((0 + (m0 : Int) + (m1 : Int) + (m2 : Int)) : Int) : Rat) * (1 * (((0 + (m1 : Int) + (m3 : Int) + (m5 : Int)) : Int) : Rat) - (((0 - (m3 : Int)) : Int) : Rat) * 0) - 0 * ((((0 - (m0 : Int)) : Int) : Rat) * (((0 + (m1 : Int) + (m3 : Int) + (m5 : Int)) : Int) : Rat) - (((0 - (m3 : Int)) : Int) : Rat) * (((0 - (m1 : Int)) : Int) : Rat)) + (((0 - (m1 : Int)) : Int) : Rat) * ((((0 - (m0 : Int)) : Int) : Rat) * 0 - 1 * (((0 - (m1 : Int)) : Int) : Rat))) / ((det3I (0 + (m0 : Int) + (m1 : Int) + (m2 : Int)) (0 - (m0 : Int)) (0 - (m1 : Int)) (0 - (m0 : Int)) (0 + (m0 : Int) + (m3 : Int) + (m4 : Int)) (0 - (m3 : Int)) (0 - (m1 : Int)) (0 - (m3 : Int)) (0 + (m1 : Int) + (m3 : Int) + (m5 : Int)) : Int) : Rat)) rfl ?_
    rw [divI, ← pair2_4 m0 m1 m2 m3 m4 m5, ← cut3_3 m0 m1 m2 m3 m4 m5]
    congr 1
    unfold det2I
    push_cast
    grind
  s2 := by
    have hS : (solveM 3 3 0 (augM (gridL m0 m1 m2 m3 m4 m5) (but1 1) 3) 1).1 = _ := solve3_int (p := 0) (q := 0) (r := 1) (first_1 m0 m1 m2 m3 m4 m5 h0 h3 h5) (minor_1 m0 m1 m2 m3 m4 m5 h0 h3 h5) (third_1 m0 m1 m2 m3 m4 m5 h0 h3 h5)
    refine ⟨2, _, rfl, by decide, Eq.trans (congrArg (fun M : Mat => M[2]?) hS) rfl, ?_⟩
    refine congrArg some ?_
    refine Eq.trans (b := ((((0 + (m0 : Int) + (m1 : Int) + (m2 : Int)) : Int) : Rat) * ((((0 + (m1 : Int) + (m3 : Int) + (m5 : Int)) : Int) : Rat) * 1 - 0 * (((0 - (m5 : Int)) : Int) : Rat)) - (((0 - (m1 : Int)) : Int) : Rat) * ((((0 - (m1 : Int)) : Int) : Rat) * 1 - 0 * (((0 - (m2 : Int)) : Int) : Rat)) + 0 * ((((0 - (m1 : Int)) : Int) : Rat) * (((0 - (m5 : Int)) : Int) : Rat) - (((0 + (m1 : Int) + (m3 : Int) + (m5 : Int)) : Int) : Rat) * (((0 - (m2 : Int)) : Int) : Rat))) / ((det3I (0 + (m0 : Int) + (m1 : Int) + (m2 : Int)) (0 - (m1 : Int)) (0 - (m2 : Int)) (0 - (m1 : Int)) (0 + (m1 : Int) + (m3 : Int) + (m5 : Int)) (0 - (m5 : Int)) (0 - (m2 : Int)) (0 - (m5 : Int)) (0 + (m2 : Int) + (m4 : Int) + (m5 : Int)) : Int) : Rat)) rfl ?_
    rw [divI, ← pair2_4 m0 m1 m2 m3 m4 m5, ← cut3_1 m0 m1 m2 m3 m4 m5]
    congr 1
    unfold det2I
    push_cast
    grind
theorem pairOk_5 (m0 m1 m2 m3 m4 m5 : Nat) (h0 : 1 ≤ m0) (h3 : 1 ≤ m3) (h5 : 1 ≤ m5) : PairOk (gridL m0 m1 m2 m3 m4 m5) 2 3 (partN m0 m1 m2 m3 m4 m5 5) (treesN m0 m1 m2 m3 m4 m5) where
  l1 := by decide
  l1' := by decide
  l2 := by decide
  d2 := by
    rw [← pair2_5 m0 m1 m2 m3 m4 m5]
    exact det2_int _ _ _ _
  d3 := by
    rw [← cut3_3 m0 m1 m2 m3 m4 m5]
    exact det3_int (first_3 m0 m1 m2 m3 m4 m5 h0 h3 h5) (minor_3 m0 m1 m2 m3 m4 m5 h0 h3 h5) (third_3 m0 m1 m2 m3 m4 m5 h0 h3 h5)
  s1 := by
    have hS : (solveM 3 3 0 (augM (gridL m0 m1 m2 m3 m4 m5) (but1 3) 2) 1).1 = _ := solve3_int (p := 0) (q := 0) (r := 1) (first_3 m0 m1 m2 m3 m4 m5 h0 h3 h5) (minor_3 m0 m1 m2 m3 m4 m5 h0 h3 h5) (third_3 m0 m1 m2 m3 m4 m5 h0 h3 h5)
    refine ⟨2, _, rfl, by decide, Eq.trans (congrArg (fun M : Mat => M[2]?) hS) rfl, ?_⟩
    refine congrArg some ?_
    refine Eq.trans (b := ((((0 + (m0 : Int) + (m1 : Int) + (m2 : Int)) : Int) : Rat) * ((((0 + (m0 : Int) + (m3 : Int) + (m4 : Int)) : Int) : Rat) * 1 - 0 * (((0 - (m3 : Int)) : Int) : Rat)) - (((0 - (m0 : Int)) : Int) : Rat) * ((((0 - (m0 : Int)) : Int) : Rat) * 1 - 0 * (((0 - (m1 : Int)) : Int) : Rat)) + 0 * ((((0 - (m0 : Int)) : Int) : Rat) * (((0 - (m3 : Int)) : Int) : Rat) - (((0 + (m0 : Int) + (m3 : Int) + (m4 : Int)) : Int) : Rat) * (((0 - (m1 : Int)) : Int) : Rat))) / ((det3I (0 + (m0 : Int) + (m1 : Int) + (m2 : Int)) (0 - (m0 : Int)) (0 - (m1 : Int)) (0 - (m0 : Int)) (0 + (m0 : Int) + (m3 : Int) + (m4 : Int)) (0 - (m3 : Int)) (0 - (m1 : Int)) (0 - (m3 : Int)) (0 + (m1 : Int) + (m3 : Int) + (m5 : Int)) : Int) : Rat)) rfl ?_
    rw [divI, ← pair2_5 m0 m1 m2 m3 m4 m5, ← cut3_3 m0 m1 m2 m3 m4 m5]
    congr 1
    unfold det2I
    push_cast
    grind
  s2 := by
    have hS : (solveM 3 3 0 (augM (gridL m0 m1 m2 m3 m4 m5) (but1 2) 3) 1).1 = _ := solve3_int (p := 0) (q := 0) (r := 1) (first_2 m0 m1 m2 m3 m4 m5 h0 h3 h5) (minor_2 m0 m1 m2 m3 m4 m5 h0 h3 h5) (third_2 m0 m1 m2 m3 m4 m5 h0 h3 h5)
    refine ⟨2, _, rfl, by decide, Eq.trans (congrArg (fun M : Mat => M[2]?) hS) rfl, ?_⟩
    refine congrArg some ?_
    refine Eq.trans (b := ((((0 + (m0 : Int) + (m1 : Int) + (m2 : Int)) : Int) : Rat) * ((((0 + (m0 : Int) + (m3 : Int) + (m4 : Int)) : Int) : Rat) * 1 - 0 * (((0 - (m4 : Int)) : Int) : Rat)) - (((0 - (m0 : Int)) : Int) : Rat) * ((((0 - (m0 : Int)) : Int) : Rat) * 1 - 0 * (((0 - (m2 : Int)) : Int) : Rat)) + 0 * ((((0 - (m0 : Int)) : Int) : Rat) * (((0 - (m4 : Int)) : Int) : Rat) - (((0 + (m0 : Int) + (m3 : Int) + (m4 : Int)) : Int) : Rat) * (((0 - (m2 : Int)) : Int) : Rat))) / ((det3I (0 + (m0 : Int) + (m1 : Int) + (m2 : Int)) (0 - (m0 : Int)) (0 - (m2 : Int)) (0 - (m0 : Int)) (0 + (m0 : Int) + (m3 : Int) + (m4 : Int)) (0 - (m4 : Int)) (0 - (m2 : Int)) (0 - (m4 : Int)) (0 + (m2 : Int) + (m4 : Int) + (m5 : Int)) : Int) : Rat)) rfl ?_
    rw [divI, ← pair2_5 m0 m1 m2 m3 m4 m5, ← cut3_2 m0 m1 m2 m3 m4 m5]
    congr 1
    unfold det2I
    push_cast
    grind
theorem foster (m0 m1 m2 m3 m4 m5 : Nat) : m0 * partN m0 m1 m2 m3 m4 m5 0 + m1 * partN m0 m1 m2 m3 m4 m5 1 + m2 * partN m0 m1 m2 m3 m4 m5 2 + m3 * partN m0 m1 m2 m3 m4 m5 3 + m4 * partN m0 m1 m2 m3 m4 m5 4 + m5 * partN m0 m1 m2 m3 m4 m5 5 = 3 * treesN m0 m1 m2 m3 m4 m5 := by
  unfold partN treesN
  grind
theorem more_0 (m0 m1 m2 m3 m4 m5 : Nat) : treesN (m0 + 1) m1 m2 m3 m4 m5 = treesN m0 m1 m2 m3 m4 m5 + partN m0 m1 m2 m3 m4 m5 0 ∧ partN (m0 + 1) m1 m2 m3 m4 m5 0 = partN m0 m1 m2 m3 m4 m5 0 := by
  unfold partN treesN
  constructor <;> grind
theorem more_1 (m0 m1 m2 m3 m4 m5 : Nat) : treesN m0 (m1 + 1) m2 m3 m4 m5 = treesN m0 m1 m2 m3 m4 m5 + partN m0 m1 m2 m3 m4 m5 1 ∧ partN m0 (m1 + 1) m2 m3 m4 m5 1 = partN m0 m1 m2 m3 m4 m5 1 := by
  unfold partN treesN
  constructor <;> grind
theorem more_2 (m0 m1 m2 m3 m4 m5 : Nat) : treesN m0 m1 (m2 + 1) m3 m4 m5 = treesN m0 m1 m2 m3 m4 m5 + partN m0 m1 m2 m3 m4 m5 2 ∧ partN m0 m1 (m2 + 1) m3 m4 m5 2 = partN m0 m1 m2 m3 m4 m5 2 := by
  unfold partN treesN
  constructor <;> grind
theorem more_3 (m0 m1 m2 m3 m4 m5 : Nat) : treesN m0 m1 m2 (m3 + 1) m4 m5 = treesN m0 m1 m2 m3 m4 m5 + partN m0 m1 m2 m3 m4 m5 3 ∧ partN m0 m1 m2 (m3 + 1) m4 m5 3 = partN m0 m1 m2 m3 m4 m5 3 := by
  unfold partN treesN
  constructor <;> grind
theorem more_4 (m0 m1 m2 m3 m4 m5 : Nat) : treesN m0 m1 m2 m3 (m4 + 1) m5 = treesN m0 m1 m2 m3 m4 m5 + partN m0 m1 m2 m3 m4 m5 4 ∧ partN m0 m1 m2 m3 (m4 + 1) m5 4 = partN m0 m1 m2 m3 m4 m5 4 := by
  unfold partN treesN
  constructor <;> grind
theorem more_5 (m0 m1 m2 m3 m4 m5 : Nat) : treesN m0 m1 m2 m3 m4 (m5 + 1) = treesN m0 m1 m2 m3 m4 m5 + partN m0 m1 m2 m3 m4 m5 5 ∧ partN m0 m1 m2 m3 m4 (m5 + 1) 5 = partN m0 m1 m2 m3 m4 m5 5 := by
  unfold partN treesN
  constructor <;> grind
end
end Mine
-- RawDict
set_option maxHeartbeats 4000000
set_option maxRecDepth 100000
namespace Mine
open PySem PySem.Spec PySem.Calls PyProof.Rows PyProof.Rows.LCg PySem.W
section
variable {prog : Program} {w : World} {A : Around} {E : Value → Shared → Prop} {s : Shared} {h₀ : Heap} {env : Env} {L : Addr} {m : Str → Option Value} {led : List (Addr × Obj)}
/-- a dict of any keys: its entries, its epoch -/
def RawAt (h : Heap) (d : Addr) (es : Array DictEntry) (ep : Nat) : Prop := ∃ o, h.get? d = some o ∧ o.ExactDict ∧ o.data = .dict es ep
theorem RawAt.typeIs {d : Addr} {es : Array DictEntry} {ep : Nat} (r : RawAt s.heap d es ep) : s.TypeIs (.ref d) "dict" := let ⟨o, ho, hc, _⟩ := r; ⟨o, ho, hc.1⟩
theorem RawAt.at' {h h' : Heap} {d : Addr} {es : Array DictEntry} {ep : Nat} (r : RawAt h d es ep) (k : ∀ o, h.get? d = some o → h'.get? d = some o) : RawAt h' d es ep := let ⟨o, ho, hr⟩ := r; ⟨o, k o ho, hr⟩
theorem raw_method {name : Str} {id : String} {pl : Sem Bool} {Q : Value × List Value → Shared → Prop} {d : Addr} {es : Array DictEntry} {ep : Nat} (slot : Slot "dict" name id) (hty : typeOf (.builtin id) = pure (.type "method_descriptor"))
    (r : RawAt s.heap d es ep) (h : Q (.builtin id, [.ref d]) s) : wpAny (model prog w) A (getMethod (.ref d) name pl) Q E s :=
  getMethod_builtin r.typeIs PySem.F.plainAttrs_dict slot hty (fun b e => by injection e with e; subst e; exact let ⟨o, ho, hc, _⟩ := r; ⟨o, ho, hc.2.1⟩) h
theorem raw_items {Q : Value → Shared → Prop} {d : Addr} {es : Array DictEntry} {ep : Nat} (hs : (d == sysModules) = false) (r : RawAt s.heap d es ep) (F : Fr h₀ L s.heap m) (N : News h₀ L s.heap led)
    (h : ∀ vw ov h', ov.cls = .type "dict_items" → ov.data = .fields #[.ref d] → Fr h₀ L h' m → News h₀ L h' ((vw, ov) :: led) → (∀ p ∈ led, p.1 < vw) → RawAt h' d es ep → Q (.ref vw) { s with heap := h' }) :
    wpAny (model prog w) A (call (.builtin "dict.items") [.ref d]) Q E s := by
  have g : MeetsIn prog w (Builtin.«dict.items» ⟨[.ref d], []⟩) (fun _ R s => s.TypeIs (.ref d) "dict" ∧ R (.ok (.ret (.ref s.heap.objs.size))) { s with heap := s.heap.push { cls := .type "dict_items", data := .fields #[.ref d] } }) :=
    .of_wp fun A R s ⟨ht, h⟩ => by
      unfold Builtin.«dict.items» Builtin.Dict.noArgs Builtin.Dict.showsAll
      refine wpAny_bind (wpAny_bind (wpAny_notOrdered_dict ht (wpAny_pure ?_)))
      show wpAny _ _ ((if (d == sysModules) = true then _ else _) >>= _) _ _ s
      rw [hs]
      exact wpAny_bind (wpAny_pure (wpAny_bind (wpAny_newObj_type (wpAny_pure ⟨_, rfl, h⟩))))
  exact call_meetsIn PySem.F.slot_dict_items r.typeIs PySem.F.entry_dict_items (PySem.F.args_dict_items_1 _) g ⟨r.typeIs, h _ _ _ rfl rfl (F.push _) (News.push F N _) (fun p hp => Heap.lt_size (N p hp).1) (r.at' fun o e => Heap.get?_push_of_some _ e)⟩
theorem raw_iter {Q : Value → Shared → Prop} {v d : Addr} {es : Array DictEntry} {ep : Nat} (hv : s.heap.IsItemsView v d) (r : RawAt s.heap d es ep)
    (h : Q (.ref s.heap.objs.size) { s with heap := s.heap.push { cls := .type "dict_itemiterator", data := .fields #[.none, .bool false, .ref d, .int 0 0, .int es.size 0, .int ep 0, .none, .none] } }) : wpAny (model prog w) A (pyIter (.ref v)) Q E s := by
  obtain ⟨ov, e1, _, e2⟩ := id hv
  obtain ⟨o, e3, _, e4⟩ := id r
  refine wpAny_pyIter_slot hv.typeIs F.slot_dict_items_iter (wpAny_call_entry F.slot_dict_items_iter hv.typeIs F.entry_dict_items_iter ?_ (F.args_dict_items_iter_1 _))
  unfold Builtin.«dict_items.__iter__»
  refine wpAny_bind (wpAny_pure (wpAny_bind ?_))
  unfold Builtin.Dict_items.dictOf
  refine wpAny_bind (wpAny_field e1 e2 (x := .ref d) rfl (wpAny_pure (wpAny_bind ?_)))
  unfold Builtin.Dict_items.newIterator
  refine wpAny_bind (wpAny_dictEntries e3 e4 (wpAny_bind (wpAny_dictEpoch e3 e4 ?_)))
  dsimp only
  rw [if_pos (show Builtin.Dict_items.ownsTuple "dict_itemiterator" = true by decide)]
  exact wpAny_newObj_type (wpAny_pure ⟨_, rfl, "dict_itemiterator", _, ⟨_, Heap.get?_push_size _ rfl, rfl⟩, F.slot_dict_itemiterator_next.lookup, h⟩) (by simp [sizeOk, Builtin.Dict_items.ownedTupleFields, sizeLine_eq])
/-- the tuple that the items' iterator hands out, at first alone -/
theorem raw_pair {it d : Addr} {i n ep : Nat} {key val ok ov : Value} {Q : Value → Shared → Prop} (hit : IsItemIter s.heap it d i n ep ok ov)
    (h : ∀ h', IsItemIterOut h' it d i n ep key val s.heap.objs.size → h'.get? s.heap.objs.size = some { cls := .type "tuple", data := .seq #[key, val] } → (∀ b o, b ≠ it → s.heap.get? b = some o → h'.get? b = some o) → Q (.ref s.heap.objs.size) { s with heap := h' }) :
    wpAny (model prog w) A (Builtin.Dict_items.pairFromOwner (.ref it) 6 key val) Q E s := by
  obtain ⟨hp, g, dr, tk, os⟩ := s
  have hlt : hp.objs.size ≠ it := Nat.ne_of_gt (Heap.lt_size hit)
  unfold Builtin.Dict_items.pairFromOwner Builtin.Dict_items.ownedTupleIsFree
  refine wpAny_bind (wpAny_newTuple ?_)
  have g1 := Heap.get?_push_of_some { cls := .type "tuple", data := .seq [key, val].toArray } hit
  refine wpAny_bind (wpAny_bind (wpAny_field g1 rfl (x := .none) rfl (wpAny_pure ?_)))
  rw [if_pos rfl]
  refine wpAny_bind (wpAny_field g1 rfl (x := ok) rfl (wpAny_bind (wpAny_field g1 rfl (x := ov) rfl (wpAny_bind ?_))))
  refine wpAny_setField_rec g1 (show 6 < 8 by decide) fun h1 g2 s1 => wpAny_bind (wpAny_setField_rec g2 (show 7 < 8 by decide) fun h2 g3 s2 => wpAny_bind (wpAny_setField_rec g3 (show 0 < 8 by decide) fun h3 g4 s3 => wpAny_bind (wpAny_setField_rec g4 (show 1 < 8 by decide) fun h4 g5 s4 => ?_)))
  have up : ∀ b o, b ≠ it → (hp.push { cls := .type "tuple", data := .seq [key, val].toArray }).get? b = some o → h4.get? b = some o := fun b o hb e => s4.extBut b o hb (s3.extBut b o hb (s2.extBut b o hb (s1.extBut b o hb e)))
  exact wpAny_bind (wpAny_letGo (wpAny_pure (h h4 g5 (up _ _ hlt (Heap.get?_push_size _ rfl)) fun b o hb e => up b o hb (Heap.get?_push_of_some _ e))))
/-- the iterator's next: the entry at its place, or the end -/
theorem raw_next {it d : Addr} {i ep : Nat} {es : Array DictEntry} {ok ov : Value} {Q : Option Value → Shared → Prop} (hh : A.handled = none) (hit : IsItemIter s.heap it d i es.size ep ok ov) (r : RawAt s.heap d es ep)
    (hs : ∀ e, es[i]? = some e → ∀ T h', IsItemIterOut h' it d (i + 1) es.size ep e.key e.val T → h'.get? T = some { cls := .type "tuple", data := .seq #[e.key, e.val] } → T ≠ it → (∀ b o, b ≠ it → s.heap.get? b = some o → h'.get? b = some o) → Q (some (.ref T)) { s with heap := h' })
    (hn : es[i]? = none → ∀ h', (∀ b o, b ≠ it → s.heap.get? b = some o → h'.get? b = some o) → Q none { s with heap := h' }) :
    wpAny (model prog w) A (pyNext (.ref it)) Q E s := by
  obtain ⟨hp, g, dr, tk, os⟩ := s
  obtain ⟨o, e3, _, e4⟩ := id r
  have ht : Shared.TypeIs ⟨hp, g, dr, tk, os⟩ (.ref it) "dict_itemiterator" := ⟨_, hit, rfl⟩
  have own : Builtin.Dict_items.ownsTuple "dict_itemiterator" = true := by decide
  unfold pyNext
  refine wpAny_bind (wpAny_attempt (wpAny_callSpecial?_slot (name := Str.ofString "__next__") ht F.slot_dict_itemiterator_next
    (wpAny_call_entry F.slot_dict_itemiterator_next ht F.entry_dict_itemiterator_next ?_ (F.args_dict_itemiterator_next_1 _))))
  refine wpAny_bind (wpAny_pure (wpAny_bind (wpAny_bind (wpAny_bind (wpAny_typeNameOfWhole_itemiter ht (wpAny_pure (wpAny_bind (wpAny_fieldsOf hit rfl ?_))))))))
  rw [own]
  show wpAny _ _ (if (Value.ref d == Value.none) = true then _ else _) _ _ _
  rw [if_neg (show ¬ (Value.ref d == Value.none) = true from Bool.false_ne_true)]
  refine wpAny_bind (wpAny_pure (wpAny_bind (wpAny_dictEntries e3 e4 ?_)))
  rw [if_neg (show ¬ (((es.size : Nat) : Int) != ((es.size : Nat) : Int)) = true by simp)]
  refine wpAny_bind (wpAny_pure (wpAny_bind (wpAny_dictEpoch e3 e4 ?_)))
  rw [if_neg (show ¬ (((ep : Nat) : Int) != ((ep : Nat) : Int)) = true by simp)]
  refine wpAny_pure ?_
  dsimp only
  rw [if_neg (show ¬ ((i : Nat) : Int) < 0 by lia), Int.toNat_natCast]
  cases he : es[i]? with
  | some e =>
    refine wpAny_bind (wpAny_bind (wpAny_typeNameOfWhole_itemiter ht (wpAny_pure (wpAny_bind (wpAny_isOneOf_itemiter ht ?_)))))
    rw [own]
    show wpAny _ _ (setField (.ref it) 3 (rawInt (((i : Nat) : Int) + 1)) >>= _) _ _ ⟨hp, g, dr, tk, os⟩
    refine wpAny_bind (wpAny_setField_rec hit (show 3 < 8 by decide) fun h1 g1 s1 => ?_)
    have g2 : IsItemIter h1 it d (i + 1) es.size ep ok ov := by
      unfold IsItemIter
      rw [show (((i + 1 : Nat)) : Int) = ((i : Nat) : Int) + 1 by lia]
      exact g1
    have ht1 : Shared.TypeIs ⟨h1, g, dr, tk, os⟩ (.ref it) "dict_itemiterator" := ⟨_, g2, rfl⟩
    refine wpAny_bind (wpAny_holding (wpAny_bind (wpAny_isOneOf_itemiter ht1 (wpAny_bind (wpAny_isOneOf_itemiter ht1 ?_)))))
    show wpAny _ _ (Builtin.Dict_items.pairFromOwner (.ref it) 6 e.key e.val) _ _ ⟨h1, g, dr, tk, os⟩
    refine raw_pair g2 fun h2 k1 k2 k3 => wpAny_pure ⟨_, rfl, wpAny_pure (hs e he _ h2 k1 k2 (Nat.ne_of_gt (Heap.lt_size g2)) fun b o hb x => k3 b o hb (s1.extBut b o hb x))⟩
  | none =>
    refine wpAny_bind (wpAny_bind (wpAny_typeNameOfWhole_itemiter ht (wpAny_pure ?_)))
    rw [own]
    show wpAny _ _ (setField (.ref it) 2 .none >>= _) _ _ ⟨hp, g, dr, tk, os⟩
    refine wpAny_bind (wpAny_setField hit rfl (show 2 < 8 by decide) ?_)
    show wpAny _ _ (newExc (.type "StopIteration") [] >>= _) _ _ _
    unfold newExc newTuple
    refine wpAny_bind (wpAny_bind (wpAny_newObj_type ?_ (by size_fits)))
    refine wpAny_bind (m := firstArgMember _ _) (wpAny_of_eq (a := Value.none) (by first | rfl | (simp only [firstArgMember]; rfl)) (wpAny_newObj_type ?_ (by size_fits)))
    unfold raiseNew
    refine wpAny_bind (wpAny_handled ?_)
    rw [show A.in1.handled = none from hh]
    refine wpAny_bind (wpAny_pure (wpAny_throw ?_))
    refine wpAny_bind (wpAny_isInstance (T := "StopIteration") (b := true) ⟨_, Heap.get?_push_size _ rfl, rfl⟩ isSubtype_stop (wpAny_pure ?_))
    exact hn he _ (((Heap.SameBut.update ..).extBut.push _).push _)
/-- the turns of a loop over the items of a dict of any keys -/
theorem raw_turns {elts : List Expr} {kk : Nat} {pos : Pos} {I d : Addr} {es : Array DictEntry} {ep : Nat} (hh : A.handled = none) (hne : d ≠ I) :
    KTurns prog w A (.Tuple elts kk pos) I [I, d] [I] es.size (fun i v h => ∃ T e, v = .ref T ∧ es[i]? = some e ∧ h.IsTuple T #[e.key, e.val])
      (fun i v h => ∃ T e, v = .ref T ∧ es[i]? = some e ∧ h.IsTuple T #[e.key, e.val] ∧ IsItemIterOut h I d (i + 1) es.size ep e.key e.val T ∧ RawAt h d es ep ∧ T ≠ I)
      (fun i h => (∃ ok ov, IsItemIter h I d i es.size ep ok ov) ∧ RawAt h d es ep) where
  sub := fun b hb => by rw [List.mem_singleton.mp hb]; exact List.mem_cons_self
  frame := fun i h h' st hk => ⟨let ⟨ok, ov, e⟩ := st.1; ⟨ok, ov, hk I List.mem_cons_self _ e⟩, st.2.at' fun o e => hk d (List.mem_cons_of_mem _ List.mem_cons_self) o e⟩
  item := fun i s Q E hi st hQ => by
    obtain ⟨⟨ok, ov, g⟩, r⟩ := st
    refine raw_next hh g r (fun e he T h' k1 k2 k3 k4 => ?_) fun hn => absurd hi (by simpa using hn)
    exact hQ (.ref T) h' s.toks ⟨T, e, rfl, he, ⟨_, k2, rfl, _, rfl⟩, k1, r.at' fun o x => k4 d o hne x, k3⟩ fun b o hb x => k4 b o (fun h => hb (List.mem_singleton.mpr h)) x
  go := fun i v s Q E hm hQ => by
    obtain ⟨T, e, rfl, he, hT, g, r, k⟩ := hm
    exact wpAny_letOwnedTupleGo_items g fun h' g' s' => hQ h' ⟨T, e, rfl, he, hT.at fun o x => s'.extBut T o k x⟩ ⟨⟨_, _, g'⟩, r.at' fun o x => s'.extBut d o hne x⟩ fun b o hb x => s'.extBut b o (fun h => hb (List.mem_singleton.mpr h)) x
  done := fun s Q E st hQ => by
    obtain ⟨⟨ok, ov, g⟩, r⟩ := st
    refine raw_next hh g r (fun e he => ?_) fun _ h' k => hQ h' s.toks fun b o hb x => k b o (fun h => hb (List.mem_singleton.mpr h)) x
    simp at he
theorem turns_mk {target : Expr} {body : List Stmt} {Q : Flow → Shared → Prop} {I : Addr} {fp wr : List Addr} {n : Nat} {P Md : Nat → Value → Heap → Prop} {St : Nat → Heap → Prop} (W : KTurns prog w A target I fp wr n P Md St) (alive : ∀ i h, St i h → ∀ b ∈ wr, ∃ o, h.get? b = some o)
    (hLf : env.locals ∉ fp) (hwr : ∀ b ∈ wr, h₀.get? b = none) (hnw : ∀ p ∈ led, p.1 ∉ wr) (hst : St 0 s.heap) (F : Fr h₀ env.locals s.heap m) (N : News h₀ env.locals s.heap led)
    (J : Nat → (Str → Option Value) → List (Addr × Obj) → Prop) (h0 : J 0 m led)
    (turn : ∀ i v m₁ led₁ own h tk, i < n → P i v h → J i m₁ led₁ → (∀ p ∈ led₁, p.1 ∉ wr) → (∀ p ∈ own, p.1 ∈ fp) → Fr h₀ env.locals h m₁ → News h₀ env.locals h (own ++ led₁) →
      wpAny (model prog w) A (assign target env v) (fun _ s₃ => wpAny (model prog w) A (execs body env) (ForOut h₀ env.locals own led₁ (J (i + 1)) { s with heap := h, toks := tk } Q) E s₃) E { s with heap := h, toks := tk })
    (done : ∀ h tk m₁ led₁, J n m₁ led₁ → Fr h₀ env.locals h m₁ → News h₀ env.locals h led₁ → Q .next { s with heap := h, toks := tk }) :
    TurnsAt prog w A h₀ env target body Q E (.ref I) s := by
  refine ⟨I, fp, wr, n, P, Md, St, m, led, J, rfl, W, hLf, hwr, hnw, hst, F, N, h0, fun i v m₁ led₁ h₁ tk₁ own hi hP hJ hn hown _ hlive hS F₁ N₁ => ?_, fun h tk m₁ led₁ F₁ N₁ _ hJ => done h tk m₁ led₁ hJ F₁ N₁⟩
  refine wpAny_mono (turn i v m₁ led₁ own h₁ tk₁ hi hP hJ hn hown F₁ N₁) (fun _ s₃ h₃ => wpAny_mono h₃ (fun f s₂ q => ?_) fun _ _ e => e) fun _ _ e => e
  have off : ∀ led₂ : List (Addr × Obj), (∀ p ∈ led₂, (∃ q ∈ led₁, q.1 = p.1) ∨ ∀ q ∈ own, q.1 < p.1) → ∀ p ∈ led₂, p.1 ∉ wr := fun led₂ ho p hp hq =>
    (ho p hp).elim (fun ⟨q, hq', e⟩ => hn q hq' (by rw [e]; exact hq)) fun hall => let ⟨o, ho⟩ := alive _ _ hS _ hq; absurd (hall _ (hlive _ (W.sub _ hq) (hwr _ hq) o ho)) (Nat.lt_irrefl _)
  cases f with
  | ret v => exact q
  | brk => exact q
  | next =>
    obtain ⟨h', tk', m₂, led₂, e, F₂, N₂, ho, hJ₂⟩ := q
    exact ⟨rfl, h', tk', m₂, led₂, e, F₂, N₂, off _ ho, hJ₂⟩
  | cont =>
    obtain ⟨h', tk', m₂, led₂, e, F₂, N₂, ho, hJ₂⟩ := q
    exact ⟨rfl, h', tk', m₂, led₂, e, F₂, N₂, off _ ho, hJ₂⟩
theorem IterF2.items {elts : List Expr} {kk : Nat} {tpos : Pos} {body : List Stmt} {Q : Flow → Shared → Prop} {vw d : Addr} {od ov : Obj} {es : Array DictEntry} {ep : Nat} (hh : A.handled = none) (F : Fr h₀ env.locals s.heap m) (N : News h₀ env.locals s.heap led)
    (hv : (vw, ov) ∈ led) (hc : ov.cls = .type "dict_items") (hd : ov.data = .fields #[.ref d]) (hm : (d, od) ∈ led) (hx : od.ExactDict) (he : od.data = .dict es ep)
    (J : Nat → (Str → Option Value) → List (Addr × Obj) → Prop) (h0 : J 0 m led)
    (turn : ∀ i e T m₁ led₁ own h tk, i < es.size → es[i]? = some e → J i m₁ led₁ → (∀ q ∈ own, (∀ p ∈ led₁, p.1 ≠ q.1) ∨ q.1 = d) → h.IsTuple T #[e.key, e.val] → Fr h₀ env.locals h m₁ → News h₀ env.locals h (own ++ led₁) →
      wpAny (model prog w) A (assign (.Tuple elts kk tpos) env (.ref T)) (fun _ s₃ => wpAny (model prog w) A (execs body env) (ForOut h₀ env.locals own led₁ (J (i + 1)) { s with heap := h, toks := tk } Q) E s₃) E { s with heap := h, toks := tk })
    (done : ∀ h tk m₁ led₁, J es.size m₁ led₁ → Fr h₀ env.locals h m₁ → News h₀ env.locals h led₁ → Q .next { s with heap := h, toks := tk }) :
    IterF2 prog w A E h₀ env (.Tuple elts kk tpos) body Q (.ref vw) s := by
  have r : RawAt s.heap d es ep := ⟨_, (N _ hm).1, hx, he⟩
  have ltd : d < s.heap.objs.size := Heap.lt_size (N _ hm).1
  have hne : d ≠ s.heap.objs.size := Nat.ne_of_lt ltd
  refine raw_iter ⟨_, (N _ hv).1, hc, hd⟩ r ?_
  refine turns_mk (raw_turns hh hne) (fun i h st b hb => ?_) (fun hb => ?_) (fun b hb => by rw [List.mem_singleton.mp hb]; exact next_is_new F) (fun p hp hI => absurd (Heap.lt_size (N p hp).1) ((List.mem_singleton.mp hI) ▸ Nat.lt_irrefl _))
    ⟨⟨.none, .none, Heap.get?_push_size _ rfl⟩, r.at' fun o e => Heap.get?_push_of_some _ e⟩ (F.push _) (fun p hp => ⟨Heap.get?_push_of_some _ (N p hp).1, (N p hp).2⟩) J h0 (fun i v m₁ led₁ own h₁ tk₁ hi hP hJ hnw hown F₁ N₁ => ?_) done
  · obtain ⟨⟨_, _, g⟩, _⟩ := st
    rw [List.mem_singleton.mp hb]
    exact ⟨_, g⟩
  · rcases List.mem_cons.mp hb with e | hb
    · exact absurd F.ns.lt (e ▸ Nat.lt_irrefl _)
    · exact (N _ hm).2.1 (List.mem_singleton.mp hb).symm
  · obtain ⟨T, e, rfl, he9, hT⟩ := hP
    exact turn i e T m₁ led₁ own h₁ tk₁ hi he9 hJ (fun q hq => (List.mem_cons.mp (hown q hq)).elim (fun e => .inl fun p hp e' => hnw p hp (List.mem_singleton.mpr (e'.trans e))) fun e => .inr (List.mem_singleton.mp e)) hT F₁ N₁
end
end Mine
-- LinesLib
set_option maxHeartbeats 4000000
set_option maxRecDepth 100000
namespace Mine
open PySem PySem.Spec PySem.Calls PyProof.Rows PyProof.Rows.LCg PySem.W
/-- the keys and values of the lines, as they stand -/
inductive LKeys (led : List (Addr × Obj)) : List (Int × Int) → List Int → List (List Int × Addr × Value) → Prop
  | nil : LKeys led [] [] []
  | cons {p : Int × Int} {z : Int} {a : Addr} {t u v : Tok} {ps : List (Int × Int)} {zs : List Int} {xs : List (List Int × Addr × Value)} :
    (a, ({ cls := .type "tuple", data := .seq #[.int p.1 t, .int p.2 u] } : Obj)) ∈ led → LKeys led ps zs xs → LKeys led (p :: ps) (z :: zs) (([p.1, p.2], a, .int z v) :: xs)
theorem LKeys.mono {led led' : List (Addr × Obj)} {ps : List (Int × Int)} {zs : List Int} {xs : List (List Int × Addr × Value)} (h : LKeys led ps zs xs) (hs : ∀ p ∈ led, p.2.cls = .type "tuple" → p ∈ led') : LKeys led' ps zs xs := by
  induction h with
  | nil => exact .nil
  | cons m _ ih => exact .cons (hs _ m rfl) ih
theorem LKeys.snoc {led : List (Addr × Obj)} {ps : List (Int × Int)} {zs : List Int} {xs : List (List Int × Addr × Value)} (h : LKeys led ps zs xs) {p : Int × Int} {z : Int} {a : Addr} {t u v : Tok}
    (hm : (a, ({ cls := .type "tuple", data := .seq #[.int p.1 t, .int p.2 u] } : Obj)) ∈ led) : LKeys led (ps ++ [p]) (zs ++ [z]) (xs ++ [([p.1, p.2], a, .int z v)]) := by
  induction h with
  | nil => exact .cons hm .nil
  | cons m _ ih => exact .cons m ih
theorem LKeys.keys {led : List (Addr × Obj)} {ps : List (Int × Int)} {zs : List Int} {xs : List (List Int × Addr × Value)} (h : LKeys led ps zs xs) : xs.map (·.1) = ps.map fun p => [p.1, p.2] := by
  induction h with
  | nil => rfl
  | cons m _ ih => rw [List.map_cons, List.map_cons, ih]
theorem LKeys.lens {led : List (Addr × Obj)} {ps : List (Int × Int)} {zs : List Int} {xs : List (List Int × Addr × Value)} (h : LKeys led ps zs xs) : xs.length = ps.length ∧ zs.length = ps.length := by
  induction h with
  | nil => exact ⟨rfl, rfl⟩
  | cons m _ ih => exact ⟨congrArg (· + 1) ih.1, congrArg (· + 1) ih.2⟩
theorem LKeys.at {led : List (Addr × Obj)} {ps : List (Int × Int)} {zs : List Int} {xs : List (List Int × Addr × Value)} (h : LKeys led ps zs xs) : ∀ {i : Nat} {p : Int × Int} {z : Int}, ps[i]? = some p → zs[i]? = some z →
    ∃ a t u v, xs[i]? = some ([p.1, p.2], a, .int z v) ∧ (a, ({ cls := .type "tuple", data := .seq #[.int p.1 t, .int p.2 u] } : Obj)) ∈ led := by
  induction h with
  | nil => intro i p z h; cases h
  | cons m _ ih =>
    intro i p z h1 h2
    cases i with
    | zero => cases h1; cases h2; exact ⟨_, _, _, _, rfl, m⟩
    | succ i => exact ih h1 h2
theorem LKeys.put {led : List (Addr × Obj)} {ps : List (Int × Int)} {zs : List Int} {xs : List (List Int × Addr × Value)} (h : LKeys led ps zs xs) {z : Int} {v : Tok} :
    ∀ {i : Nat} {p : Int × Int}, ps.Nodup → ps[i]? = some p → LKeys led ps (zs.set i z) (xs.map (putAt [p.1, p.2] (.int z v))) := by
  induction h with
  | nil => intro i p _ h; cases h
  | @cons p' z' a t u v' ps' zs' xs' m h' ih =>
    intro i p hn h1
    have hn' := List.nodup_cons.mp hn
    cases i with
    | zero =>
      cases h1
      have e : xs'.map (putAt [p'.1, p'.2] (.int z v)) = xs' := map_putAt_of_not_mem _ _ _ (by
        rw [h'.keys]
        intro hm
        obtain ⟨q, hq, e⟩ := List.mem_map.mp hm
        injection e with e1 e2
        injection e2 with e2
        exact hn'.1 ((Prod.ext e1 e2 : q = p') ▸ hq))
      rw [List.map_cons, e]
      unfold putAt
      rw [if_pos rfl]
      exact .cons m h'
    | succ i =>
      have hne : ¬ ([p'.1, p'.2] : List Int) = [p.1, p.2] := fun e => by
        injection e with e1 e2
        injection e2 with e2
        exact hn'.1 ((Prod.ext e1 e2 : p' = p) ▸ List.mem_of_getElem? h1)
      rw [List.map_cons]
      have e : putAt [p.1, p.2] (.int z v) ([p'.1, p'.2], a, .int z' v') = ([p'.1, p'.2], a, .int z' v') := by
        unfold putAt
        rw [if_neg hne]
      rw [e]
      exact .cons m (ih hn'.2 h1)
section
variable {prog : Program} {w : World}
/-- the dict of the lines: the pairs, how many lies between them -/
def IsLines (prog : Program) (w : World) (led : List (Addr × Obj)) (d : Addr) (od : Obj) (ps : List (Int × Int)) (zs : List Int) : Prop :=
  (d == sysModules) = false ∧ od.ExactDict ∧ ps.Nodup ∧ ∃ es ep xs, od.data = .dict es ep ∧ es.toList = xs.map (entryOfKey (tupleKind (intKind prog w))) ∧ LKeys led ps zs xs
theorem IsLines.mono {led led' : List (Addr × Obj)} {d : Addr} {od : Obj} {ps : List (Int × Int)} {zs : List Int} (h : IsLines prog w led d od ps zs) (hs : ∀ p ∈ led, p.2.cls = .type "tuple" → p ∈ led') : IsLines prog w led' d od ps zs :=
  let ⟨a, b, c, es, ep, xs, e1, e2, k⟩ := h
  ⟨a, b, c, es, ep, xs, e1, e2, k.mono hs⟩
theorem lk_nodup {led : List (Addr × Obj)} {ps : List (Int × Int)} {zs : List Int} {xs : List (List Int × Addr × Value)} (h : LKeys led ps zs xs) (hn : ps.Nodup) : (xs.map (·.1)).Nodup := by
  rw [h.keys]
  refine List.Pairwise.map _ (fun a b hne e => hne ?_) hn
  injection e with e1 e2
  injection e2 with e2
  exact Prod.ext e1 e2
theorem lk_key {h₀ h : Heap} {L : Addr} {led : List (Addr × Obj)} (N : News h₀ L h led) {p : Int × Int} {a : Addr} {t u : Tok} (m : (a, ({ cls := .type "tuple", data := .seq #[.int p.1 t, .int p.2 u] } : Obj)) ∈ led) : IsTupleKey (intKind prog w) h [p.1, p.2] a :=
  ⟨_, _, _, (N _ m).1, rfl, rfl, .cons (intKind_is ..) (.cons (intKind_is ..) .nil)⟩
theorem lk_is {h₀ h : Heap} {L : Addr} {led : List (Addr × Obj)} (N : News h₀ L h led) {ps : List (Int × Int)} {zs : List Int} {xs : List (List Int × Addr × Value)} (k : LKeys led ps zs xs) : ∀ x ∈ xs, IsTupleKey (intKind prog w) h x.1 x.2.1 := by
  induction k with
  | nil => intro x hx; cases hx
  | cons m _ ih =>
    intro x hx
    rcases List.mem_cons.mp hx with rfl | hx
    · exact lk_key N m
    · exact ih x hx
theorem IsLines.dict {h₀ h : Heap} {L : Addr} {led : List (Addr × Obj)} {d : Addr} {od : Obj} {ps : List (Int × Int)} {zs : List Int} (l : IsLines prog w led d od ps zs) (N : News h₀ L h led) (hm : h.get? d = some od) :
    ∃ xs, h.DictOfH (tupleKind (intKind prog w)) d xs ∧ LKeys led ps zs xs :=
  let ⟨_, b, c, es, ep, xs, e1, e2, k⟩ := l
  ⟨xs, ⟨od, es, ep, hm, b, e1, e2, lk_is N k, lk_nodup k c⟩, k⟩
theorem at_none {led : List (Addr × Obj)} {ps : List (Int × Int)} {zs : List Int} {xs : List (List Int × Addr × Value)} (k : LKeys led ps zs xs) {p : Int × Int} (hp : p ∉ ps) : atKey xs [p.1, p.2] = none :=
  atKey_none_of_get fun j q e => by
    have : [p.1, p.2] ∈ xs.map (·.1) := List.mem_map.mpr ⟨_, List.mem_of_getElem? e, rfl⟩
    rw [k.keys] at this
    obtain ⟨q', hq, e⟩ := List.mem_map.mp this
    injection e with e1 e2
    injection e2 with e2
    exact hp ((Prod.ext e1 e2 : q' = p) ▸ hq)
end
section
variable {prog : Program} {w : World} {A : Around} {E : Value → Shared → Prop} {s : Shared} {h₀ : Heap} {L : Addr} {m : Str → Option Value} {led rest : List (Addr × Obj)} {d a : Addr} {od : Obj} {ps : List (Int × Int)} {zs : List Int} {p : Int × Int} {z : Int} {t u v : Tok}
theorem lines_new {Q : Unit → Shared → Prop} (hu : A.units + 1 < cLine) (F : Fr h₀ L s.heap m) (N : News h₀ L s.heap led) (hm : (d, od) ∈ led) (l : IsLines prog w rest d od ps zs) (hk : (a, ({ cls := .type "tuple", data := .seq #[.int p.1 t, .int p.2 u] } : Obj)) ∈ rest) (hp : p ∉ ps) (hl : ps.length ≤ 100)
    (hr : ∀ q ∈ rest, q ∈ led ∧ q.1 ≠ d) (h : ∀ od' h' tk, Fr h₀ L h' m → News h₀ L h' ((d, od') :: rest) → IsLines prog w rest d od' (ps ++ [p]) (zs ++ [z]) → Q () { s with heap := h', toks := tk }) :
    wpAny (model prog w) A (setItem (.ref d) (.ref a) (.int z v)) Q E s := by
  have N' : News h₀ L s.heap rest := fun q hq => N q (hr q hq).1
  obtain ⟨xs, hd, k⟩ := l.dict N' (N _ hm).1
  refine wpAny_setItem_heap (knd := tupleKind (intKind prog w)) (tupleKind_room_in1 hu) (lk_key N' hk) hd (fun h' hd' sb => ?_) (by rw [k.lens.1, sizeLine_eq]; lia)
  rw [storedH_new (at_none k hp)] at hd'
  obtain ⟨o', es, ep, ho, hx, he, hl', _, _⟩ := hd'
  refine h o' h' _ (F.change sb (N _ hm).2.1 (N _ hm).2.2) (fun q hq => ?_) ⟨l.1, hx, ?_, es, ep, _, he, hl', k.snoc hk⟩
  · rcases List.mem_cons.mp hq with rfl | hq
    · exact ⟨ho, (N _ hm).2⟩
    · exact ⟨sb.extBut _ _ (hr q hq).2 (N' q hq).1, (N' q hq).2⟩
  · exact List.nodup_append.mpr ⟨l.2.2.1, List.nodup_cons.mpr ⟨by simp, List.nodup_nil⟩, fun x hx y hy e => hp (by rw [List.mem_singleton.mp hy] at e; exact e ▸ hx)⟩
theorem lines_old {Q : Unit → Shared → Prop} {i : Nat} (hu : A.units + 1 < cLine) (F : Fr h₀ L s.heap m) (N : News h₀ L s.heap led) (hm : (d, od) ∈ led) (l : IsLines prog w rest d od ps zs) (hk : (a, ({ cls := .type "tuple", data := .seq #[.int p.1 t, .int p.2 u] } : Obj)) ∈ rest) (hp : ps[i]? = some p) (hl : ps.length ≤ 100)
    (hr : ∀ q ∈ rest, q ∈ led ∧ q.1 ≠ d) (h : ∀ od' h' tk, Fr h₀ L h' m → News h₀ L h' ((d, od') :: rest) → IsLines prog w rest d od' ps (zs.set i z) → Q () { s with heap := h', toks := tk }) :
    wpAny (model prog w) A (setItem (.ref d) (.ref a) (.int z v)) Q E s := by
  have N' : News h₀ L s.heap rest := fun q hq => N q (hr q hq).1
  obtain ⟨xs, hd, k⟩ := l.dict N' (N _ hm).1
  have hi : i < zs.length := by rw [k.lens.2]; exact (List.getElem?_eq_some_iff.mp hp).1
  obtain ⟨a', t', u', v', hx', _⟩ := k.at hp (List.getElem?_eq_getElem hi)
  refine wpAny_setItem_heap (knd := tupleKind (intKind prog w)) (tupleKind_room_in1 hu) (lk_key N' hk) hd (fun h' hd' sb => ?_) (by rw [k.lens.1, sizeLine_eq]; lia)
  rw [storedH_old (atKey_of_get (lk_nodup k l.2.2.1) hx')] at hd'
  obtain ⟨o', es, ep, ho, hx, he, hl', _, _⟩ := hd'
  refine h o' h' _ (F.change sb (N _ hm).2.1 (N _ hm).2.2) (fun q hq => ?_) ⟨l.1, hx, l.2.2.1, es, ep, _, he, hl', k.put l.2.2.1 hp⟩
  rcases List.mem_cons.mp hq with rfl | hq
  · exact ⟨ho, (N _ hm).2⟩
  · exact ⟨sb.extBut _ _ (hr q hq).2 (N' q hq).1, (N' q hq).2⟩
theorem lines_get {value slice : PySem.Expr} {Q : Value → Shared → Prop} {i : Nat} (hu : A.units + 1 < cLine) (N : News h₀ L s.heap led) (hm : (d, od) ∈ led) (l : IsLines prog w led d od ps zs) (hk : (a, ({ cls := .type "tuple", data := .seq #[.int p.1 t, .int p.2 u] } : Obj)) ∈ led) (hp : ps[i]? = some p) (hz : zs[i]? = some z)
    (h : ∀ v tk, Q (.int z v) { s with toks := tk })
    (hs : subscripted slice false (.ref d) (.ref a) = operate [.ref d, .ref a] (getItem (.ref d) (.ref a))) (hg : ∀ r, letTemporaryGo value (.ref d) r = pure ()) :
    wpAny (model prog w) A (subscriptTail value slice (.ref d) (.ref a)) Q E s := by
  obtain ⟨xs, hd, k⟩ := l.dict N (N _ hm).1
  obtain ⟨a', t', u', v', hx', _⟩ := k.at hp hz
  exact subscriptTail_builtin hd.typeIs slot_dict_getitem.lookup (wpAny_getItem_heap (knd := tupleKind (intKind prog w)) (tupleKind_room_in1 hu) (lk_key N hk) hd (atKey_of_get (lk_nodup k l.2.2.1) hx') (h _ _)) hs hg
theorem lines_entry (l : IsLines prog w led d od ps zs) : ∃ es ep, od.ExactDict ∧ od.data = .dict es ep ∧ es.size = ps.length ∧ zs.length = ps.length ∧
    ∀ (i : Nat) (e : DictEntry), es[i]? = some e → ∃ a t u v p z, e.key = .ref a ∧ e.val = .int z v ∧ ps[i]? = some p ∧ zs[i]? = some z ∧ (a, ({ cls := .type "tuple", data := .seq #[.int p.1 t, .int p.2 u] } : Obj)) ∈ led := by
  obtain ⟨_, b, c, es, ep, xs, e1, e2, k⟩ := l
  refine ⟨es, ep, b, e1, (size_of_entries e2).trans k.lens.1, k.lens.2, fun i e he => ?_⟩
  have hi : i < ps.length := by rw [← k.lens.1, ← size_of_entries e2]; exact (Array.getElem?_eq_some_iff.mp he).1
  obtain ⟨a, t, u, v, hx, hm⟩ := k.at (List.getElem?_eq_getElem hi) (List.getElem?_eq_getElem (show i < zs.length by rw [k.lens.2]; exact hi))
  rw [entry_at e2, hx] at he
  cases he
  exact ⟨a, t, u, v, _, _, rfl, rfl, List.getElem?_eq_getElem hi, List.getElem?_eq_getElem _, hm⟩
end
end Mine
-- GridLib
set_option maxHeartbeats 4000000
set_option maxRecDepth 100000
namespace Mine
open PySem PySem.Spec PySem.Calls PyProof.Rows PyProof.Rows.LCg PySem.W
/-- the pairs in the order in which the lines are laid -/
noncomputable def pairs6 : List (Int × Int) := [(0, 1), (0, 2), (0, 3), (1, 2), (1, 3), (2, 3)]
noncomputable def setI (M : List (List Int)) (a b : Int) (z : Int) : List (List Int) := M.set a.toNat ((M.getD a.toNat []).set b.toNat z)
noncomputable def addM (M : List (List Int)) (a b m : Int) : List (List Int) := setI (setI M a a (cellI M a a + m)) b b (cellI M b b + m)
noncomputable def subM (M : List (List Int)) (a b m : Int) : List (List Int) := setI (setI M a b (cellI M a b - m)) b a (cellI M b a - m)
/-- a line laid into the grid -/
noncomputable def addL (M : List (List Int)) (p : Int × Int) (m : Int) : List (List Int) := subM (addM M p.1 p.2 m) p.1 p.2 m
noncomputable def gridTo (zs : List Int) : Nat → List (List Int)
  | 0 => List.replicate 4 [0, 0, 0, 0]
  | j + 1 => addL (gridTo zs j) (pairs6.getD j (0, 0)) (zs.getD j 0)
theorem addL_01 (a0 a1 a2 a3 b0 b1 b2 b3 c0 c1 c2 c3 d0 d1 d2 d3 m : Int) : addL [[a0, a1, a2, a3], [b0, b1, b2, b3], [c0, c1, c2, c3], [d0, d1, d2, d3]] (0, 1) m = [[a0 + m, a1 - m, a2, a3], [b0 - m, b1 + m, b2, b3], [c0, c1, c2, c3], [d0, d1, d2, d3]] := rfl
theorem addL_02 (a0 a1 a2 a3 b0 b1 b2 b3 c0 c1 c2 c3 d0 d1 d2 d3 m : Int) : addL [[a0, a1, a2, a3], [b0, b1, b2, b3], [c0, c1, c2, c3], [d0, d1, d2, d3]] (0, 2) m = [[a0 + m, a1, a2 - m, a3], [b0, b1, b2, b3], [c0 - m, c1, c2 + m, c3], [d0, d1, d2, d3]] := rfl
theorem addL_03 (a0 a1 a2 a3 b0 b1 b2 b3 c0 c1 c2 c3 d0 d1 d2 d3 m : Int) : addL [[a0, a1, a2, a3], [b0, b1, b2, b3], [c0, c1, c2, c3], [d0, d1, d2, d3]] (0, 3) m = [[a0 + m, a1, a2, a3 - m], [b0, b1, b2, b3], [c0, c1, c2, c3], [d0 - m, d1, d2, d3 + m]] := rfl
theorem addL_12 (a0 a1 a2 a3 b0 b1 b2 b3 c0 c1 c2 c3 d0 d1 d2 d3 m : Int) : addL [[a0, a1, a2, a3], [b0, b1, b2, b3], [c0, c1, c2, c3], [d0, d1, d2, d3]] (1, 2) m = [[a0, a1, a2, a3], [b0, b1 + m, b2 - m, b3], [c0, c1 - m, c2 + m, c3], [d0, d1, d2, d3]] := rfl
theorem addL_13 (a0 a1 a2 a3 b0 b1 b2 b3 c0 c1 c2 c3 d0 d1 d2 d3 m : Int) : addL [[a0, a1, a2, a3], [b0, b1, b2, b3], [c0, c1, c2, c3], [d0, d1, d2, d3]] (1, 3) m = [[a0, a1, a2, a3], [b0, b1 + m, b2, b3 - m], [c0, c1, c2, c3], [d0, d1 - m, d2, d3 + m]] := rfl
theorem addL_23 (a0 a1 a2 a3 b0 b1 b2 b3 c0 c1 c2 c3 d0 d1 d2 d3 m : Int) : addL [[a0, a1, a2, a3], [b0, b1, b2, b3], [c0, c1, c2, c3], [d0, d1, d2, d3]] (2, 3) m = [[a0, a1, a2, a3], [b0, b1, b2, b3], [c0, c1, c2 + m, c3 - m], [d0, d1, d2 - m, d3 + m]] := rfl
theorem gridTo_six (a b c d e f : Int) : gridTo [a, b, c, d, e, f] 6 = gridL a b c d e f := by
  show addL (addL (addL (addL (addL (addL [[0, 0, 0, 0], [0, 0, 0, 0], [0, 0, 0, 0], [0, 0, 0, 0]] (0, 1) a) (0, 2) b) (0, 3) c) (1, 2) d) (1, 3) e) (2, 3) f = _
  rw [addL_01, addL_02, addL_03, addL_12, addL_13, addL_23]
  rfl
def Four (M : List (List Int)) : Prop := M.length = 4 ∧ ∀ zs ∈ M, zs.length = 4
theorem Four.row {M : List (List Int)} (h : Four M) {a : Int} (ha : 0 ≤ a ∧ a < 4) : ∃ zs, M[a.toNat]? = some zs ∧ M.getD a.toNat [] = zs ∧ zs.length = 4 := by
  have hi : a.toNat < M.length := by rw [h.1]; lia
  exact ⟨M[a.toNat], List.getElem?_eq_getElem hi, by rw [List.getD_eq_getElem?_getD, List.getElem?_eq_getElem hi, Option.getD_some], h.2 _ (List.getElem_mem hi)⟩
theorem Four.setI {M : List (List Int)} (h : Four M) {a b z : Int} (ha : 0 ≤ a ∧ a < 4) : Four (setI M a b z) := by
  obtain ⟨zs, _, e, hl⟩ := h.row ha
  unfold Mine.setI
  rw [e]
  refine ⟨by rw [List.length_set]; exact h.1, fun ys hy => ?_⟩
  rcases List.mem_or_eq_of_mem_set hy with hy | rfl
  · exact h.2 _ hy
  · rw [List.length_set]; exact hl
theorem four0 : Four (List.replicate 4 [0, 0, 0, 0]) := ⟨rfl, by decide⟩
theorem pairs6_in : ∀ p ∈ pairs6, (0 ≤ p.1 ∧ p.1 < 4) ∧ (0 ≤ p.2 ∧ p.2 < 4) := by decide
theorem Four.addM {M : List (List Int)} (h : Four M) {a b m : Int} (ha : 0 ≤ a ∧ a < 4) (hb : 0 ≤ b ∧ b < 4) : Four (addM M a b m) := (h.setI ha).setI hb
theorem Four.subM {M : List (List Int)} (h : Four M) {a b m : Int} (ha : 0 ≤ a ∧ a < 4) (hb : 0 ≤ b ∧ b < 4) : Four (subM M a b m) := (h.setI ha).setI hb
theorem four_grid (zs : List Int) : ∀ j, Four (gridTo zs j)
  | 0 => four0
  | j + 1 => by
    have h : (0 ≤ (pairs6.getD j (0, 0)).1 ∧ (pairs6.getD j (0, 0)).1 < 4) ∧ (0 ≤ (pairs6.getD j (0, 0)).2 ∧ (pairs6.getD j (0, 0)).2 < 4) := by
      rw [List.getD_eq_getElem?_getD]
      cases e : pairs6[j]? with
      | none => decide
      | some p => exact pairs6_in p (List.mem_of_getElem? e)
    exact ((four_grid zs j).addM h.1 h.2).subM h.1 h.2
theorem gridTo_succ {zs : List Int} {j : Nat} {p : Int × Int} {z : Int} (hp : pairs6[j]? = some p) (hz : zs[j]? = some z) : gridTo zs (j + 1) = subM (addM (gridTo zs j) p.1 p.2 z) p.1 p.2 z := by
  show addL _ _ _ = _
  rw [List.getD_eq_getElem?_getD, List.getD_eq_getElem?_getD, hp, hz]
  rfl
theorem IntRows.setRow {led led' : List (Addr × Obj)} {gs : List Value} {M : List (List Int)} (h : IntRows led gs M) {r : Addr} {zs : List Int} (hn : gs.Nodup) (hs : ∀ p ∈ led, p.1 ≠ r → p ∈ led') (hr : IntRow led' (.ref r) zs) : ∀ {a : Nat}, gs[a]? = some (.ref r) → IntRows led' gs (M.set a zs) := by
  have keep : ∀ {vs : List Value} {M : List (List Int)}, IntRows led vs M → Value.ref r ∉ vs → IntRows led' vs M := fun {vs M} h => by
    induction h with
    | nil => exact fun _ => .nil
    | @cons v zs vs M h _ ih =>
      intro hm
      obtain ⟨q, k, cs, rfl, hq, hc⟩ := h
      exact .cons ⟨q, k, cs, rfl, hs _ hq fun e => hm (by rw [show q = r from e]; exact List.mem_cons_self), hc⟩ (ih fun hq => hm (List.mem_cons_of_mem _ hq))
  induction h with
  | nil => intro a e; cases e
  | @cons v ys vs M h h' ih =>
    intro a e
    have hn' := List.nodup_cons.mp hn
    cases a with
    | zero =>
      cases e
      exact .cons hr (keep h' hn'.1)
    | succ a =>
      refine .cons ?_ (ih hn'.2 e)
      obtain ⟨q, k, cs, rfl, hq, hc⟩ := h
      exact ⟨q, k, cs, rfl, hs _ hq fun e' => hn'.1 (by rw [show q = r from e']; exact List.mem_of_getElem? e), hc⟩
/-- the ledger led' keeps what led has beside the places of the list gs, and has no other place -/
def KeepsOff (gs : List Value) (led led' : List (Addr × Obj)) : Prop := (∀ p ∈ led, Value.ref p.1 ∉ gs → p ∈ led') ∧ ∀ p ∈ led', ∃ q ∈ led, q.1 = p.1
theorem KeepsOff.trans {gs : List Value} {a b c : List (Addr × Obj)} (h : KeepsOff gs a b) (h' : KeepsOff gs b c) : KeepsOff gs a c :=
  ⟨fun p hp hn => h'.1 p (h.1 p hp hn) hn, fun p hp => by
    obtain ⟨q, hq, e⟩ := h'.2 p hp
    obtain ⟨q', hq', e'⟩ := h.2 q hq
    exact ⟨q', hq', e'.trans e⟩⟩
theorem KeepsOff.refl (gs : List Value) (a : List (Addr × Obj)) : KeepsOff gs a a := ⟨fun _ h _ => h, fun p h => ⟨p, h, rfl⟩⟩
section
variable {prog : Program} {w : World} {A : Around} {E : Value → Shared → Prop} {s : Shared} {h₀ : Heap} {L : Addr} {m : Str → Option Value} {led : List (Addr × Obj)}
/-- a cell of a grid is stored -/
theorem cell_set {gs : List Value} {M : List (List Int)} {a b z : Int} {r : Addr} {u t : Tok} {Q : Unit → Shared → Prop} (hM : IntRows led gs M) (hf : Four M) (hn : gs.Nodup) (F : Fr h₀ L s.heap m) (N : News h₀ L s.heap led) (ha : 0 ≤ a ∧ a < 4) (hb : 0 ≤ b ∧ b < 4) (hr : gs[a.toNat]? = some (.ref r))
    (h : ∀ h' led', Fr h₀ L h' m → News h₀ L h' led' → KeepsOff gs led led' → IntRows led' gs (setI M a b z) → Q () { s with heap := h' }) :
    wpAny (model prog w) A (setItem (.ref r) (.int b u) (.int z t)) Q E s := by
  obtain ⟨zs, e, e', hl⟩ := hf.row ha
  obtain ⟨v, hv, r', k, cs, rfl, hm, hc⟩ := hM.at e
  rw [hr] at hv
  cases hv
  have hcl : cs.length = 4 := hc.length.trans hl
  refine set_at (led.filter fun p => p.1 != r) F N hm hb.1 (by rw [hcl]; exact hb.2) (by lia) (fun p hp => by have := List.mem_filter.mp hp; exact ⟨this.1, by simpa using this.2⟩) fun c' h' F' N' => ?_
  have hs : ∀ p ∈ led, p.1 ≠ r → p ∈ (r, ({ cls := .type "list", data := .seq (cs.set b.toNat (.int z t)).toArray c' } : Obj)) :: led.filter (fun p => p.1 != r) := fun p hp hne => List.mem_cons_of_mem _ (List.mem_filter.mpr ⟨hp, by simpa using hne⟩)
  refine h h' _ F' N' ⟨fun p hp hg => hs p hp fun e => hg (by rw [e]; exact List.mem_of_getElem? hr), fun p hp => ?_⟩ ?_
  · rcases List.mem_cons.mp hp with rfl | hp
    · exact ⟨_, hm, rfl⟩
    · exact ⟨p, (List.mem_filter.mp hp).1, rfl⟩
  · unfold setI
    rw [e']
    refine hM.setRow hn hs ⟨r, c', _, rfl, List.mem_cons_self, ?_⟩ hr
    clear e e' hr hm N' hs hcl hl
    generalize b.toNat = j
    induction hc generalizing j with
    | nil => exact .nil
    | cons h ih =>
      cases j with
      | zero => exact .cons h
      | succ j => exact .cons (ih j)
end
theorem IntRows.restrict {led led' : List (Addr × Obj)} {gs : List Value} {M : List (List Int)} (h : IntRows led gs M) (hs : ∀ p ∈ led, Value.ref p.1 ∈ gs → p ∈ led') : IntRows led' gs M := by
  induction h with
  | nil => exact .nil
  | cons h _ ih =>
    obtain ⟨r, k, cs, rfl, hm, hc⟩ := h
    exact .cons ⟨r, k, cs, rfl, hs _ hm List.mem_cons_self, hc⟩ (ih fun p hp hg => hs p hp (List.mem_cons_of_mem _ hg))
theorem IntRows.has {led : List (Addr × Obj)} {gs : List Value} {M : List (List Int)} (h : IntRows led gs M) {r : Addr} (hr : Value.ref r ∈ gs) : ∃ o, (r, o) ∈ led := by
  induction h with
  | nil => cases hr
  | cons h _ ih =>
    obtain ⟨q, k, cs, rfl, hm, hc⟩ := h
    rcases List.mem_cons.mp hr with e | hr
    · cases e; exact ⟨_, hm⟩
    · exact ih hr
open Classical in
/-- the end of a turn that stores into the rows of gs: what is the loop's own is left out -/
theorem keep_turn {own led₁ led₂ : List (Addr × Obj)} {gs : List Value} (K : KeepsOff gs (own ++ led₁) led₂) (hg : ∀ r, Value.ref r ∈ gs → ∃ o, (r, o) ∈ led₁) (ho : ∀ q ∈ own, Value.ref q.1 ∉ gs) :
    ∃ led₃, (∀ p ∈ own ++ led₃, p ∈ led₂) ∧ (∀ p ∈ led₃, ∃ q ∈ led₁, q.1 = p.1) ∧ KeepsOff gs led₁ led₃ ∧ ∀ p ∈ led₂, Value.ref p.1 ∈ gs → p ∈ led₃ := by
  refine ⟨led₂.filter fun p => decide (∃ q ∈ led₁, q.1 = p.1), fun p hp => ?_, fun p hp => of_decide_eq_true (List.mem_filter.mp hp).2, ⟨fun p hp hn => List.mem_filter.mpr ⟨K.1 p (List.mem_append_right _ hp) hn, decide_eq_true ⟨p, hp, rfl⟩⟩, fun p hp => of_decide_eq_true (List.mem_filter.mp hp).2⟩, fun p hp hn => List.mem_filter.mpr ⟨hp, decide_eq_true (let ⟨o, h⟩ := hg _ hn; ⟨_, h, rfl⟩)⟩⟩
  rcases List.mem_append.mp hp with hp | hp
  · exact K.1 p (List.mem_append_left _ hp) (ho p hp)
  · exact (List.mem_filter.mp hp).1
/-- what a loop over new rows leaves lies above -/
theorem keep_above {h₀ h : Heap} {L : Addr} {gs : List Value} {led base led₁ : List (Addr × Obj)} (K : KeepsOff gs base led₁) (N : News h₀ L h led₁) (hb : ∀ p ∈ base, p ∈ led ∨ ∀ q ∈ led, q.1 < p.1) (hl : ∀ p ∈ led, p ∈ base) (hg : ∀ p ∈ led, Value.ref p.1 ∉ gs) : Above led led₁ := by
  refine ⟨fun p hp => K.1 p (hl p hp) (hg p hp), fun p hp => ?_⟩
  obtain ⟨q, hq, e⟩ := K.2 p hp
  rcases hb q hq with h | h
  · left
    have h1 := (N p hp).1
    have h2 := (N q (K.1 q (hl q h) (hg q h))).1
    rw [e, h1] at h2
    have : p = q := Prod.ext e.symm (Option.some.inj h2)
    rw [this]; exact h
  · right
    rw [← e]; exact h
/-- reading a cell -/
theorem cell_of {led : List (Addr × Obj)} {gs : List Value} {M : List (List Int)} (hM : IntRows led gs M) (hf : Four M) {a b : Int} {r : Addr} (ha : 0 ≤ a ∧ a < 4) (hb : 0 ≤ b ∧ b < 4) (hr : gs[a.toNat]? = some (.ref r)) :
    ∃ k cs t, (r, ({ cls := .type "list", data := .seq (List.toArray cs) k } : Obj)) ∈ led ∧ cs[b.toNat]? = some (.int (cellI M a b) t) := by
  obtain ⟨r', k, cs, t, h1, h2, h3⟩ := cell_at hM hf.1 hf.2 ha hb
  rw [hr] at h1
  cases h1
  exact ⟨k, cs, t, h2, h3⟩
end Mine
-- SolvedLib
set_option maxHeartbeats 4000000
set_option maxRecDepth 100000
namespace Mine
open PySem PySem.Spec PySem.Calls PyProof.Rows PyProof.Rows.LCg PySem.W
section
variable {prog : Program} {w : World} {A : Around} {E : Value → Shared → Prop} {s : Shared} {h₀ : Heap} {env : Env} {body : List Stmt} {Q : Flow → Shared → Prop} {m : Str → Option Value} {led : List (Addr × Obj)}
theorem IterF2.zipS {elts : List Expr} {kk : Nat} {tpos : Pos} {l1 l2 : Addr} {xs ys : List Value} {k1 k2 : Nat} (hh : A.handled = none) (F : Fr h₀ env.locals s.heap m) (N : News h₀ env.locals s.heap led)
    (hm1 : (l1, ({ cls := .type "list", data := .seq xs.toArray k1 } : Obj)) ∈ led) (hm2 : (l2, ({ cls := .type "list", data := .seq ys.toArray k2 } : Obj)) ∈ led)
    (J : Nat → (Str → Option Value) → List (Addr × Obj) → Prop) (h0 : J 0 m led)
    (turn : ∀ i v v₂ T m₁ led₁ own h tk, i < min xs.length ys.length → xs[i]? = some v → ys[i]? = some v₂ → J i m₁ led₁ → (∀ q ∈ own, (∀ p ∈ led, p.1 < q.1) ∨ q.1 = l1 ∨ q.1 = l2) → h.IsTuple T #[v, v₂] → Fr h₀ env.locals h m₁ → News h₀ env.locals h (own ++ led₁) →
      wpAny (model prog w) A (assign (.Tuple elts kk tpos) env (.ref T)) (fun _ s₃ => wpAny (model prog w) A (execs body env) (ForOut h₀ env.locals own led₁ (J (i + 1)) { s with heap := h, toks := tk } Q) E s₃) E { s with heap := h, toks := tk })
    (done : ∀ h tk m₁ led₁, J (min xs.length ys.length) m₁ led₁ → Fr h₀ env.locals h m₁ → News h₀ env.locals h led₁ → Q .next { s with heap := h, toks := tk }) :
    wpAny (model prog w) A (call (.type "zip") [.ref l1, .ref l2]) (IterF2 prog w A E h₀ env (.Tuple elts kk tpos) body Q) E s := by
  have hl1 : s.heap.IsList l1 xs.toArray := ⟨_, (N _ hm1).1, rfl, _, rfl⟩
  have hl2 : s.heap.IsList l2 ys.toArray := ⟨_, (N _ hm2).1, rfl, _, rfl⟩
  have lt1 : l1 < s.heap.objs.size := Heap.lt_size (N _ hm1).1
  have lt2 : l2 < s.heap.objs.size := Heap.lt_size (N _ hm2).1
  have ltL : env.locals < s.heap.objs.size := F.ns.lt
  refine call_zip_2 hl1 hl2 fun h' hz hTI hTO h1 h2 hsz' hk => ?_
  refine wpAny_pyIter_zip hz ?_
  have D := zipApart_of s.heap.objs.size l1 l2 lt1 lt2
  have up : ∀ j : Nat, ∀ p ∈ led, p.1 < s.heap.objs.size + j := fun j p hp => Nat.lt_of_lt_of_le (Heap.lt_size (N p hp).1) (Nat.le_add_right _ _)
  have hLk : ∀ j : Nat, env.locals ≠ s.heap.objs.size + j := fun j => Nat.ne_of_lt (Nat.lt_of_lt_of_le ltL (Nat.le_add_right _ _))
  have hnew : ∀ j : Nat, h₀.get? (s.heap.objs.size + j) = none := fun j => Heap.get?_none_of_le (Nat.le_trans (Nat.le_of_lt (Nat.lt_of_le_of_lt F.above ltL)) (Nat.le_add_right _ _))
  refine turns_mk (KTurns.ofWalksU ((WalksT.zip2 (prog := prog) (w := w) hh _ _ _ _ _ _ _ D xs.toArray ys.toArray).toU)) (fun i h ⟨a1, _, ⟨_, _, a3⟩, ⟨_, a4, _⟩, ⟨_, a5, _⟩, _⟩ => all4 ⟨_, a1⟩ ⟨_, a3⟩ ⟨_, a4⟩ ⟨_, a5⟩)
    (fun hb => all7 (P := fun x => env.locals ≠ x) (hLk 4) (hLk 2) (hLk 3) (hLk 0) (hLk 1) (Ne.symm (N _ hm1).2.1) (Ne.symm (N _ hm2).2.1) _ hb rfl) (all4 (P := fun b => h₀.get? b = none) (hnew 4) (hnew 3) (hnew 0) (hnew 1))
    (fun p hp hI => all4 (P := fun b => p.1 ≠ b) (Nat.ne_of_lt (up 4 p hp)) (Nat.ne_of_lt (up 3 p hp)) (Nat.ne_of_lt (up 0 p hp)) (Nat.ne_of_lt (up 1 p hp)) _ hI rfl)
    ⟨hz, hTI, ⟨_, _, hTO⟩, h1, h2, hl1.at fun o e => hk _ o e, hl2.at fun o e => hk _ o e⟩ (F.keeps hk) (N.grown hk) J h0 (fun i v m₁ led₁ own h₁ tk₁ hi hP hJ _ hown F₁ N₁ => ?_) fun h tk m₁ led₁ hJ F₁ N₁ => done h tk m₁ led₁ (by simpa using hJ) F₁ N₁
  obtain ⟨T, vals, rfl, ⟨a, b, ha, hb, rfl⟩, hT⟩ := hP
  exact turn i a b T m₁ led₁ own h₁ tk₁ (by simpa using hi) (by simpa using ha) (by simpa using hb) hJ (fun q hq => all7 (P := fun b => (∀ p ∈ led, p.1 < b) ∨ b = l1 ∨ b = l2) (.inl (up 4)) (.inl (up 2)) (.inl (up 3)) (.inl (up 0)) (.inl (up 1)) (.inr (.inl rfl)) (.inr (.inr rfl)) _ (hown q hq)) hT F₁ N₁
end
theorem keep_one (i b : Int) : (i != b) = !([b].any (· == i)) := by
  by_cases h : i = b
  · subst h; simp
  · have h' : ¬ b = i := fun e => h e.symm
    simp [bne, beq_eq_false_iff_ne.mpr h, beq_eq_false_iff_ne.mpr h']
theorem idxOf_of {a : Int} : ∀ {l : List Int} {k : Nat}, l[k]? = some a → (∀ i : Nat, i < k → l[i]? ≠ some a) → l.idxOf a = k ∧ a ∈ l
  | [], _, h, _ => by cases h
  | x :: l, 0, h, _ => by
    cases h
    exact ⟨List.idxOf_cons_self, List.mem_cons_self⟩
  | x :: l, k + 1, h, hm => by
    have hx : x ≠ a := fun e => hm 0 (Nat.succ_pos _) (by rw [e]; rfl)
    obtain ⟨h1, h2⟩ := idxOf_of (l := l) (k := k) h fun i hi => hm (i + 1) (Nat.succ_lt_succ hi)
    exact ⟨by rw [List.idxOf_cons, beq_eq_false_iff_ne.mpr hx, h1]; rfl, List.mem_cons_of_mem _ h2⟩
section
variable {prog : Program} {w : World} {A : Around} {E : Value → Shared → Prop} {s : Shared} {h₀ : Heap} {L : Addr} {m : Str → Option Value} {led : List (Addr × Obj)}
theorem append_row {r : Addr} {cs : List Value} {c : Nat} {x : Value} {Q : Value → Shared → Prop} (F : Fr h₀ L s.heap m) (N : News h₀ L s.heap led) (hm : (r, ({ cls := .type "list", data := .seq cs.toArray c } : Obj)) ∈ led) (hz : cs.length ≤ 100)
    (h : ∀ c' h', Fr h₀ L h' m → News h₀ L h' ((r, ({ cls := .type "list", data := .seq (cs ++ [x]).toArray c' } : Obj)) :: led.filter fun p => p.1 != r) → Q .none { s with heap := h' }) :
    wpAny (model prog w) A (call (.builtin "list.append") [.ref r, x]) Q E s := by
  obtain ⟨hg, hL, hn⟩ := N _ hm
  refine wpAny_list_append_plain ⟨c, hg⟩ (fun h' hp sb => ?_) (by rw [List.size_toArray, sizeLine_eq]; lia)
  obtain ⟨n, hp⟩ := hp
  rw [show cs.toArray.push x = (cs ++ [x]).toArray by simp] at hp
  refine h n h' (F.change sb hL hn) fun p hq => ?_
  rcases List.mem_cons.mp hq with rfl | hq
  · exact ⟨hp, hL, hn⟩
  · have hq := List.mem_filter.mp hq
    exact ⟨sb.extBut _ _ (by simpa using hq.2) (N p hq.1).1, (N p hq.1).2⟩
theorem method_append {r : Addr} {cs : List Value} {c : Nat} {pl : Sem Bool} {Q : Value × List Value → Shared → Prop} (N : News h₀ L s.heap led) (hm : (r, ({ cls := .type "list", data := .seq cs.toArray c } : Obj)) ∈ led) (h : Q (.builtin "list.append", [.ref r]) s) :
    wpAny (model prog w) A (getMethod (.ref r) (Str.ofString "append") pl) Q E s := getMethod_list_append (N _ hm).1 rfl rfl h
end
theorem Cells.keep {led led' : List (Addr × Obj)} {r : Addr} (hs : ∀ p ∈ led, p.1 ≠ r → p ∈ led') (ht : ∀ p ∈ led, p.2.cls = .type "tuple" → p.1 ≠ r) {cs : List Value} {qs : List Rat} (h : Cells led cs qs) : Cells led' cs qs := by
  induction h with
  | nil => exact .nil
  | cons hm _ ih => exact .cons (hs _ hm (ht _ hm rfl)) ih
/-- rows of which each may grow; the rest stays -/
theorem RowsI.setRow {led led' : List (Addr × Obj)} {gs : List Value} {M : Mat} (h : RowsI led gs M) {r : Addr} {qs : List Rat} (hn : gs.Nodup) (hs : ∀ p ∈ led, p.1 ≠ r → p ∈ led') (ht : ∀ p ∈ led, p.2.cls = .type "tuple" → p.1 ≠ r) (hr : RowIn led' (.ref r) qs) : ∀ {a : Nat}, gs[a]? = some (.ref r) → RowsI led' gs (M.set a qs) := by
  have keep : ∀ {vs : List Value} {M : Mat}, RowsI led vs M → Value.ref r ∉ vs → RowsI led' vs M := fun {vs M} h => by
    induction h with
    | nil => exact fun _ => .nil
    | @cons v zs vs M h _ ih =>
      intro hm
      obtain ⟨q, k, cs, rfl, hq, hc⟩ := h
      exact .cons ⟨q, k, cs, rfl, hs _ hq fun e => hm (by rw [show q = r from e]; exact List.mem_cons_self), Cells.keep hs ht hc⟩ (ih fun hq => hm (List.mem_cons_of_mem _ hq))
  induction h with
  | nil => intro a e; cases e
  | @cons v ys vs M h h' ih =>
    intro a e
    have hn' := List.nodup_cons.mp hn
    cases a with
    | zero =>
      cases e
      exact .cons hr (keep h' hn'.1)
    | succ a =>
      refine .cons ?_ (ih hn'.2 e)
      obtain ⟨q, k, cs, rfl, hq, hc⟩ := h
      exact ⟨q, k, cs, rfl, hs _ hq fun e' => hn'.1 (by rw [show q = r from e']; exact List.mem_of_getElem? e), Cells.keep hs ht hc⟩
theorem RowsI.has {led : List (Addr × Obj)} {gs : List Value} {M : Mat} (h : RowsI led gs M) {r : Addr} (hr : Value.ref r ∈ gs) : ∃ o, (r, o) ∈ led := by
  induction h with
  | nil => cases hr
  | cons h _ ih =>
    obtain ⟨q, k, cs, rfl, hm, hc⟩ := h
    rcases List.mem_cons.mp hr with e | hr
    · cases e; exact ⟨_, hm⟩
    · exact ih hr
/-- an element appended to a row of a matrix -/
noncomputable def appM (M : Mat) (i : Nat) (q : Rat) : Mat := M.set i (M.getD i [] ++ [q])
noncomputable def appTo (M : Mat) (us : List Rat) : Nat → Mat
  | 0 => M
  | i + 1 => appM (appTo M us i) i (us.getD i 0)
theorem cons_of_len {α : Type} {l : List α} {n : Nat} (h : l.length = n + 1) : ∃ a r, l = a :: r ∧ r.length = n := by
  cases l with
  | nil => cases h
  | cons a r => exact ⟨a, r, rfl, Nat.succ.inj h⟩
theorem aug_eq {G : List (List Int)} {ks : List Int} {one : Int} (h : ks.length = 3) : appTo (ratM (cutM G ks)) (ks.map fun z => if z = one then 1 else 0) 3 = augM G ks one := by
  obtain ⟨x, r, rfl, h1⟩ := cons_of_len h
  obtain ⟨y, r, rfl, h2⟩ := cons_of_len h1
  obtain ⟨z, r, rfl, h3⟩ := cons_of_len h2
  cases List.length_eq_zero_iff.mp h3
  rfl
theorem Cells.snoc' {led : List (Addr × Obj)} {cs : List Value} {qs : List Rat} {a : Addr} {q : Rat} {t u : Tok} (h : Cells led cs qs) (hm : (a, ({ cls := .type "tuple", data := .seq #[.int q.num t, .int (q.den : Nat) u] } : Obj)) ∈ led) : Cells led (cs ++ [.ref a]) (qs ++ [q]) := by
  induction h with
  | nil => exact .cons hm .nil
  | cons h _ ih => exact .cons h ih
/-- the end of a turn that appends a new tuple to row i -/
theorem app_turn {h₀ h : Heap} {L x r : Addr} {own led₁ : List (Addr × Obj)} {gs cs : List Value} {M : Mat} {qs : List Rat} {q : Rat} {i c' : Nat} {t u : Tok} (hM : RowsI led₁ gs M) (hn : gs.Nodup) (hr : gs[i]? = some (.ref r)) (ei : M[i]? = some qs) (hc : Cells led₁ cs qs) (ht : ∀ p ∈ led₁, p.2.cls = .type "tuple" → p.1 ≠ r)
    (ho : ∀ p ∈ own, p.1 ≠ r) (hx : ∀ p ∈ own ++ led₁, p.1 < x) (hxr : r < x)
    (N : News h₀ L h ((r, ({ cls := .type "list", data := .seq (cs ++ [Value.ref x]).toArray c' } : Obj)) :: List.filter (fun p => p.1 != r) ((x, { cls := .type "tuple", data := .seq #[.int q.num t, .int (q.den : Nat) u] }) :: (own ++ led₁)))) :
    ∃ led₃, News h₀ L h (own ++ led₃) ∧ (∀ p ∈ led₃, (∃ q ∈ led₁, q.1 = p.1) ∨ ∀ q ∈ own, q.1 < p.1) ∧ RowsI led₃ gs (appM M i q) ∧ (∀ p ∈ led₁, p.1 ≠ r → p ∈ led₃) ∧ ∀ p ∈ led₃, (∃ q ∈ led₁, q.1 = p.1) ∨ ∀ q ∈ led₁, q.1 < p.1 := by
  have hs : ∀ p ∈ led₁, p.1 ≠ r → p ∈ (r, ({ cls := .type "list", data := .seq (cs ++ [Value.ref x]).toArray c' } : Obj)) :: (x, { cls := .type "tuple", data := .seq #[.int q.num t, .int (q.den : Nat) u] }) :: led₁.filter (fun p => p.1 != r) := fun p hp hne => List.mem_cons_of_mem _ (List.mem_cons_of_mem _ (List.mem_filter.mpr ⟨hp, by simpa using hne⟩))
  have hrl : ∃ o, (r, o) ∈ led₁ := hM.has (List.mem_of_getElem? hr)
  refine ⟨_, fun p hp => N p ?_, fun p hp => ?_, ?_, hs, fun p hp => ?_⟩
  · rcases List.mem_append.mp hp with hp | hp
    · exact List.mem_cons_of_mem _ (List.mem_filter.mpr ⟨List.mem_cons_of_mem _ (List.mem_append_left _ hp), by simpa using ho p hp⟩)
    · rcases List.mem_cons.mp hp with rfl | hp
      · exact List.mem_cons_self
      · refine List.mem_cons_of_mem _ (List.mem_filter.mpr ?_)
        rcases List.mem_cons.mp hp with rfl | hp
        · exact ⟨List.mem_cons_self, by simpa using Ne.symm (Nat.ne_of_lt hxr)⟩
        · have := List.mem_filter.mp hp
          exact ⟨List.mem_cons_of_mem _ (List.mem_append_right _ this.1), this.2⟩
  · rcases List.mem_cons.mp hp with rfl | hp
    · exact .inl (let ⟨o, h⟩ := hrl; ⟨_, h, rfl⟩)
    · rcases List.mem_cons.mp hp with rfl | hp
      · exact .inr fun q hq => hx q (List.mem_append_left _ hq)
      · exact .inl ⟨p, (List.mem_filter.mp hp).1, rfl⟩
  · unfold appM
    rw [List.getD_eq_getElem?_getD, ei, Option.getD_some]
    exact hM.setRow hn hs ht ⟨r, c', _, rfl, List.mem_cons_self, Cells.snoc' (Cells.keep hs ht hc) (List.mem_cons_of_mem _ List.mem_cons_self)⟩ hr
  · rcases List.mem_cons.mp hp with rfl | hp
    · exact .inl (let ⟨o, h⟩ := hrl; ⟨_, h, rfl⟩)
    · rcases List.mem_cons.mp hp with rfl | hp
      · exact .inr fun q hq => hx q (List.mem_append_right _ hq)
      · exact .inl ⟨p, (List.mem_filter.mp hp).1, rfl⟩
end Mine
namespace Mine
open PySem PySem.Spec PySem.Calls PyProof.Rows PyProof.Rows.LCg PySem.W
theorem appTo_get {M : Mat} {us : List Rat} : ∀ {i j : Nat}, i ≤ j → (appTo M us i)[j]? = M[j]?
  | 0, _, _ => rfl
  | i + 1, j, h => by
    show (List.set _ i _)[j]? = _
    rw [List.getElem?_set_ne (by lia), appTo_get (by lia)]
theorem augM_wide {G : List (List Int)} {ks : List Int} {one : Int} (h : ks.length = 3) : Wide 3 4 (augM G ks one) := by
  refine ⟨by unfold augM; rw [List.length_map, h], fun qs hq => ?_⟩
  obtain ⟨z, _, rfl⟩ := List.mem_map.mp hq
  rw [List.length_append, List.length_map, h]
  rfl
theorem augM_bits {G : List (List Int)} {ks : List Int} {one : Int} {k : Nat} (hk : 1 ≤ k) (h : ∀ zs ∈ G, ∀ z ∈ zs, z.natAbs < 2 ^ k) : Mbits k (augM G ks one) := by
  have small : ∀ z : Int, z.natAbs < 2 ^ k → Qb k ((z : Int) : Rat) := fun z hz => ⟨PySem.intBits_le_iff.mpr hz, Nat.le_trans (show Builtin.Int.intBits ((1 : Nat) : Int) ≤ 1 by decide) hk⟩
  have h2 : 1 < 2 ^ k := Nat.lt_of_lt_of_le (show 1 < 2 ^ 1 by decide) (Nat.pow_le_pow_right (by decide) hk)
  intro qs hq q hm
  obtain ⟨z, _, rfl⟩ := List.mem_map.mp hq
  rcases List.mem_append.mp hm with hm | hm
  · obtain ⟨u, _, rfl⟩ := List.mem_map.mp hm
    exact small _ (cellI_bits h z u)
  · rw [List.mem_singleton.mp hm]
    split
    · exact small 1 h2
    · exact small 0 (Nat.lt_of_succ_lt h2)
/-- what a comprehension of new rows has made -/
def AugJ (base : List (Addr × Obj)) (M : List (List Int)) (j : Nat) (ys : List Value) (led₁ : List (Addr × Obj)) : Prop := ∃ tl, led₁ = tl ++ base ∧ (∀ p ∈ tl, ∀ q ∈ base, q.1 < p.1) ∧ RowsI tl ys (ratM (M.take j)) ∧ ys.Nodup
/-- what the loop over the rows keeps -/
def AppJ (base : List (Addr × Obj)) (D2 D : Addr) (a : Int) (ta : Tok) (ys : List Value) (M : Mat) (us : List Rat) (i : Nat) (m₁ : Str → Option Value) (led₁ : List (Addr × Obj)) : Prop :=
  m₁ (Str.ofString "rows") = some (.ref D2) ∧ m₁ (Str.ofString "kept") = some (.ref D) ∧ m₁ (Str.ofString "one") = some (.int a ta) ∧ RowsI led₁ ys (appTo M us i) ∧ (∀ p ∈ base, Value.ref p.1 ∉ ys → p ∈ led₁) ∧ ∀ p ∈ led₁, (∃ q ∈ base, q.1 = p.1) ∨ ∀ q ∈ base, q.1 < p.1
end Mine
namespace Mine
open PySem PySem.Spec PySem.Calls PyProof.Rows PyProof.Rows.LCg PySem.W
theorem rows_off {tl base : List (Addr × Obj)} {gs : List Value} {M : Mat} (h : RowsI tl gs M) (ht : ∀ p ∈ tl, ∀ q ∈ base, q.1 < p.1) : ∀ q ∈ base, Value.ref q.1 ∉ gs := fun q hq hy => by
  obtain ⟨o, ho⟩ := h.has hy
  exact Nat.lt_irrefl _ (ht _ ho q hq)
end Mine
namespace Mine
open PySem PySem.Spec PySem.Calls PyProof.Rows PyProof.Rows.LCg PySem.W
theorem tuple_ne {h₀ h : Heap} {L r : Addr} {led : List (Addr × Obj)} {cs : List Value} {k : Nat} (N : News h₀ L h led) (hm : (r, ({ cls := .type "list", data := .seq cs.toArray k } : Obj)) ∈ led) : ∀ p ∈ led, p.2.cls = .type "tuple" → p.1 ≠ r := fun p hp hc e => by
  have h1 := (N p hp).1
  rw [e, (N _ hm).1] at h1
  rw [← Option.some.inj h1] at hc
  exact absurd (show Value.type "list" = Value.type "tuple" from hc) (by decide)
theorem app_close {h₀ h h' : Heap} {L x r D2 D : Addr} {own led₁ base : List (Addr × Obj)} {gs cs : List Value} {M : Mat} {us qs : List Rat} {q : Rat} {a : Int} {ta t u : Tok} {i c' k tk : Nat} {m₂ : Str → Option Value} {s₁ : Shared} {Q : Flow → Shared → Prop}
    (hR : RowsI led₁ gs (appTo M us i)) (dk : ∀ p ∈ base, Value.ref p.1 ∉ gs → p ∈ led₁) (da : ∀ p ∈ led₁, (∃ q ∈ base, q.1 = p.1) ∨ ∀ q ∈ base, q.1 < p.1) (hn : gs.Nodup) (hr : gs[i]? = some (.ref r)) (ei : (appTo M us i)[i]? = some qs) (hc : Cells led₁ cs qs) (N0 : News h₀ L h (own ++ led₁))
    (hmr : (r, ({ cls := .type "list", data := .seq cs.toArray k } : Obj)) ∈ led₁) (ho : ∀ p ∈ own, p.1 ≠ r) (hx : ∀ p ∈ own ++ led₁, p.1 < x) (hu : us.getD i 0 = q) (F : Fr h₀ L h' m₂)
    (N : News h₀ L h' ((r, ({ cls := .type "list", data := .seq (cs ++ [Value.ref x]).toArray c' } : Obj)) :: List.filter (fun p => p.1 != r) ((x, { cls := .type "tuple", data := .seq #[.int q.num t, .int (q.den : Nat) u] }) :: (own ++ led₁))))
    (e1 : m₂ (Str.ofString "rows") = some (.ref D2)) (e2 : m₂ (Str.ofString "kept") = some (.ref D)) (e3 : m₂ (Str.ofString "one") = some (.int a ta)) :
    ForOut h₀ L own led₁ (AppJ base D2 D a ta gs M us (i + 1)) s₁ Q .next { s₁ with heap := h', toks := tk } := by
  obtain ⟨led₃, n1, n2, n3, n4, n5⟩ := app_turn hR hn hr ei hc (tuple_ne (fun p hp => N0 p (List.mem_append_right _ hp)) hmr) ho hx (hx _ (List.mem_append_right _ hmr)) N
  have hb : ∀ p ∈ base, ∃ o, (p.1, o) ∈ led₁ := fun p hp => (Classical.em (Value.ref p.1 ∈ gs)).elim (fun h => hR.has h) fun h => ⟨_, dk p hp h⟩
  refine ⟨h', tk, m₂, led₃, rfl, F, n1, n2, e1, e2, e3, by show RowsI led₃ gs (appM _ _ _); rw [hu]; exact n3, fun p hp hg => n4 p (dk p hp hg) fun e => hg (by rw [e]; exact List.mem_of_getElem? hr), fun p hp => ?_⟩
  rcases n5 p hp with ⟨q', hq, e⟩ | hall
  · rw [← e]; exact da q' hq
  · exact .inr fun q' hq => let ⟨o, ho⟩ := hb q' hq; hall (q'.1, o) ho
theorem solved_ext {h₀ h : Heap} {L D y : Addr} {oy : Obj} {led base led₁ led9 tl : List (Addr × Obj)} {gs : List Value} (N : News h₀ L h led9) (dk : ∀ p ∈ base, Value.ref p.1 ∉ gs → p ∈ led₁) (da : ∀ p ∈ led₁, (∃ q ∈ base, q.1 = p.1) ∨ ∀ q ∈ base, q.1 < p.1)
    (hb : ∀ p ∈ base, p ∈ led ∨ (∀ q ∈ led, q.1 < p.1) ∨ p.1 = D) (hl : ∀ p ∈ led, p ∈ base) (hg : ∀ p ∈ led, Value.ref p.1 ∉ gs) (hD : ∀ p ∈ led, p.1 ≠ D) (hS : led9 = tl ++ led₁) (ht : ∀ p ∈ tl, ∀ q ∈ led₁, q.1 < p.1) (hy : (y, oy) ∈ led9) (hyD : y ≠ D) :
    ∃ led', Ext led led' ∧ (∀ p ∈ led', p ∈ led9) ∧ (y, oy) ∈ led' := by
  subst hS
  have hin : ∀ p ∈ led, p ∈ led₁ := fun p hp => dk p (hl p hp) (hg p hp)
  have hA : Above led ((tl ++ led₁).filter fun p => p.1 != D) := by
    refine ⟨fun p hp => List.mem_filter.mpr ⟨List.mem_append_right _ (hin p hp), by simpa using hD p hp⟩, fun p hp => ?_⟩
    have h1 := List.mem_filter.mp hp
    rcases List.mem_append.mp h1.1 with h2 | h2
    · exact .inr fun q hq => ht p h2 q (hin q hq)
    · rcases da p h2 with ⟨q, hq, e⟩ | hall
      · rcases hb q hq with h | h | h
        · left
          have n1 := (N p h1.1).1
          rw [← e, (N q (List.mem_append_right _ (hin q h))).1] at n1
          have : q = p := Prod.ext e (Option.some.inj n1)
          rw [← this]; exact h
        · right; rw [← e]; exact h
        · exact absurd (e.symm.trans h) (by simpa using h1.2)
      · exact .inr fun q hq => hall q (hl q hq)
  obtain ⟨led', hE, h1, h2⟩ := Ext.of_above hA
  exact ⟨led', hE, fun p hp => (List.mem_filter.mp (h1 p hp)).1, h2 _ (List.mem_filter.mpr ⟨hy, by simpa using hyD⟩)⟩
section
variable {prog : Program} {w : World} {A : Around} {E : Value → Shared → Prop} {s : Shared} {h₀ : Heap} {L : Addr} {led : List (Addr × Obj)}
theorem method_index {r : Addr} {cs : List Value} {c : Nat} {pl : Sem Bool} {Q : Value × List Value → Shared → Prop} (N : News h₀ L s.heap led) (hm : (r, ({ cls := .type "list", data := .seq cs.toArray c } : Obj)) ∈ led) (h : Q (.builtin "list.index", [.ref r]) s) :
    wpAny (model prog w) A (getMethod (.ref r) (Str.ofString "index") pl) Q E s :=
  getMethod_builtin (T := "list") ⟨_, (N _ hm).1, rfl⟩ PySem.F.plainAttrs_list PySem.F.slot_list_index PySem.F.type_list_index (fun b e => by injection e with e; subst e; exact ⟨_, (N _ hm).1, rfl⟩) h
theorem index_at {r : Addr} {cs : List Value} {ns : List Int} {c k : Nat} {a : Int} {t : Tok} {Q : Value → Shared → Prop} (N : News h₀ L s.heap led) (hm : (r, ({ cls := .type "list", data := .seq cs.toArray c } : Obj)) ∈ led) (hi : Ints cs ns) (hlay : PyData.layable0 (.list (ns.map .int)) = true)
    (hk : ns[k]? = some a) (hkm : ∀ i : Nat, i < k → ns[i]? ≠ some a) (h : ∀ t' tk, Q (.int (k : Nat) t') { s with toks := tk }) : wpAny (model prog w) A (call (.builtin "list.index") [.ref r, .int a t]) Q E s := by
  obtain ⟨e1, e2⟩ := idxOf_of hk hkm
  refine index_list_ints ⟨_, (N _ hm).1, rfl, _, rfl⟩ hi.are hlay e2 ?_
  rw [e1]
  exact h _ _
end
end Mine
namespace Mine
open PySem PySem.Spec PySem.Calls PyProof.Rows PyProof.Rows.LCg PySem.W
theorem off1_all {D : Addr} : ∀ {l : List (Addr × Obj)}, LCg.Off1 D l → ∀ p ∈ l, p.1 ≠ D
  | [], _, _, hp => by cases hp
  | q :: l, h, p, hp => by
    rcases List.mem_cons.mp hp with rfl | hp
    · exact h.1
    · exact off1_all h.2 p hp
end Mine
-- Law2Lib
set_option maxRecDepth 100000
set_option maxHeartbeats 4000000
namespace Mine
open PySem PySem.Spec PySem.Calls PyProof.Rows PyProof.Rows.LCg PySem.W
theorem trees_le {m0 m1 m2 m3 m4 m5 : Nat} (h0 : m0 ≤ 4) (h1 : m1 ≤ 4) (h2 : m2 ≤ 4) (h3 : m3 ≤ 4) (h4 : m4 ≤ 4) (h5 : m5 ≤ 4) : treesN m0 m1 m2 m3 m4 m5 ≤ 10000 := Nat.le_trans (Nat.add_le_add (Nat.mul_le_mul (Nat.mul_le_mul h0 h3) h5) (Nat.add_le_add (Nat.add_le_add (Nat.add_le_add (Nat.add_le_add (Nat.add_le_add (Nat.add_le_add (Nat.add_le_add (Nat.add_le_add (Nat.add_le_add (Nat.add_le_add (Nat.add_le_add (Nat.add_le_add (Nat.add_le_add (Nat.add_le_add (Nat.mul_le_mul (Nat.mul_le_mul h0 h1) h2) (Nat.mul_le_mul (Nat.mul_le_mul h0 h1) h4)) (Nat.mul_le_mul (Nat.mul_le_mul h0 h1) h5)) (Nat.mul_le_mul (Nat.mul_le_mul h0 h2) h3)) (Nat.mul_le_mul (Nat.mul_le_mul h0 h2) h5)) (Nat.mul_le_mul (Nat.mul_le_mul h0 h3) h4)) (Nat.mul_le_mul (Nat.mul_le_mul h0 h4) h5)) (Nat.mul_le_mul (Nat.mul_le_mul h1 h2) h3)) (Nat.mul_le_mul (Nat.mul_le_mul h1 h2) h4)) (Nat.mul_le_mul (Nat.mul_le_mul h1 h3) h4)) (Nat.mul_le_mul (Nat.mul_le_mul h1 h3) h5)) (Nat.mul_le_mul (Nat.mul_le_mul h1 h4) h5)) (Nat.mul_le_mul (Nat.mul_le_mul h2 h3) h4)) (Nat.mul_le_mul (Nat.mul_le_mul h2 h3) h5)) (Nat.mul_le_mul (Nat.mul_le_mul h2 h4) h5))) (by decide)
theorem part_le0 {m0 m1 m2 m3 m4 m5 : Nat} (h0 : m0 ≤ 4) (h1 : m1 ≤ 4) (h2 : m2 ≤ 4) (h3 : m3 ≤ 4) (h4 : m4 ≤ 4) (h5 : m5 ≤ 4) : partN m0 m1 m2 m3 m4 m5 0 ≤ 10000 := Nat.le_trans (Nat.add_le_add (Nat.mul_le_mul h3 h5) (Nat.add_le_add (Nat.add_le_add (Nat.add_le_add (Nat.add_le_add (Nat.add_le_add (Nat.add_le_add (Nat.mul_le_mul h1 h2) (Nat.mul_le_mul h1 h4)) (Nat.mul_le_mul h1 h5)) (Nat.mul_le_mul h2 h3)) (Nat.mul_le_mul h2 h5)) (Nat.mul_le_mul h3 h4)) (Nat.mul_le_mul h4 h5))) (by decide)
theorem part_le1 {m0 m1 m2 m3 m4 m5 : Nat} (h0 : m0 ≤ 4) (h1 : m1 ≤ 4) (h2 : m2 ≤ 4) (h3 : m3 ≤ 4) (h4 : m4 ≤ 4) (h5 : m5 ≤ 4) : partN m0 m1 m2 m3 m4 m5 1 ≤ 10000 := Nat.le_trans (Nat.add_le_add (Nat.mul_le_mul h0 h5) (Nat.add_le_add (Nat.add_le_add (Nat.add_le_add (Nat.add_le_add (Nat.add_le_add (Nat.add_le_add (Nat.mul_le_mul h0 h2) (Nat.mul_le_mul h0 h4)) (Nat.mul_le_mul h2 h3)) (Nat.mul_le_mul h2 h4)) (Nat.mul_le_mul h3 h4)) (Nat.mul_le_mul h3 h5)) (Nat.mul_le_mul h4 h5))) (by decide)
theorem part_le2 {m0 m1 m2 m3 m4 m5 : Nat} (h0 : m0 ≤ 4) (h1 : m1 ≤ 4) (h2 : m2 ≤ 4) (h3 : m3 ≤ 4) (h4 : m4 ≤ 4) (h5 : m5 ≤ 4) : partN m0 m1 m2 m3 m4 m5 2 ≤ 10000 := Nat.le_trans (Nat.add_le_add (Nat.mul_le_mul h0 h3) (Nat.add_le_add (Nat.add_le_add (Nat.add_le_add (Nat.add_le_add (Nat.add_le_add (Nat.add_le_add (Nat.mul_le_mul h0 h1) (Nat.mul_le_mul h0 h5)) (Nat.mul_le_mul h1 h3)) (Nat.mul_le_mul h1 h4)) (Nat.mul_le_mul h3 h4)) (Nat.mul_le_mul h3 h5)) (Nat.mul_le_mul h4 h5))) (by decide)
theorem part_le3 {m0 m1 m2 m3 m4 m5 : Nat} (h0 : m0 ≤ 4) (h1 : m1 ≤ 4) (h2 : m2 ≤ 4) (h3 : m3 ≤ 4) (h4 : m4 ≤ 4) (h5 : m5 ≤ 4) : partN m0 m1 m2 m3 m4 m5 3 ≤ 10000 := Nat.le_trans (Nat.add_le_add (Nat.mul_le_mul h0 h5) (Nat.add_le_add (Nat.add_le_add (Nat.add_le_add (Nat.add_le_add (Nat.add_le_add (Nat.add_le_add (Nat.mul_le_mul h0 h2) (Nat.mul_le_mul h0 h4)) (Nat.mul_le_mul h1 h2)) (Nat.mul_le_mul h1 h4)) (Nat.mul_le_mul h1 h5)) (Nat.mul_le_mul h2 h4)) (Nat.mul_le_mul h2 h5))) (by decide)
theorem part_le4 {m0 m1 m2 m3 m4 m5 : Nat} (h0 : m0 ≤ 4) (h1 : m1 ≤ 4) (h2 : m2 ≤ 4) (h3 : m3 ≤ 4) (h4 : m4 ≤ 4) (h5 : m5 ≤ 4) : partN m0 m1 m2 m3 m4 m5 4 ≤ 10000 := Nat.le_trans (Nat.add_le_add (Nat.mul_le_mul h0 h3) (Nat.add_le_add (Nat.add_le_add (Nat.add_le_add (Nat.add_le_add (Nat.add_le_add (Nat.add_le_add (Nat.mul_le_mul h0 h1) (Nat.mul_le_mul h0 h5)) (Nat.mul_le_mul h1 h2)) (Nat.mul_le_mul h1 h3)) (Nat.mul_le_mul h1 h5)) (Nat.mul_le_mul h2 h3)) (Nat.mul_le_mul h2 h5))) (by decide)
theorem part_le5 {m0 m1 m2 m3 m4 m5 : Nat} (h0 : m0 ≤ 4) (h1 : m1 ≤ 4) (h2 : m2 ≤ 4) (h3 : m3 ≤ 4) (h4 : m4 ≤ 4) (h5 : m5 ≤ 4) : partN m0 m1 m2 m3 m4 m5 5 ≤ 10000 := Nat.le_trans (Nat.add_le_add (Nat.mul_le_mul h0 h3) (Nat.add_le_add (Nat.add_le_add (Nat.add_le_add (Nat.add_le_add (Nat.add_le_add (Nat.add_le_add (Nat.mul_le_mul h0 h1) (Nat.mul_le_mul h0 h2)) (Nat.mul_le_mul h0 h4)) (Nat.mul_le_mul h1 h3)) (Nat.mul_le_mul h1 h4)) (Nat.mul_le_mul h2 h3)) (Nat.mul_le_mul h2 h4))) (by decide)
/-- the trees, the parted forests, of the lines ms -/
noncomputable def TR (ms : List Nat) : Nat := treesN (ms.getD 0 0) (ms.getD 1 0) (ms.getD 2 0) (ms.getD 3 0) (ms.getD 4 0) (ms.getD 5 0)
noncomputable def PT (ms : List Nat) (j : Nat) : Nat := partN (ms.getD 0 0) (ms.getD 1 0) (ms.getD 2 0) (ms.getD 3 0) (ms.getD 4 0) (ms.getD 5 0) j
noncomputable def intL (ms : List Nat) : List Int := ms.map fun m => ((m : Nat) : Int)
/-- six lines, none above four, and the row of lines -/
structure LinesOk (ms : List Nat) : Prop where
  len : ms.length = 6
  le : ∀ m ∈ ms, m ≤ 4
  l0 : 1 ≤ ms.getD 0 0
  l3 : 1 ≤ ms.getD 3 0
  l5 : 1 ≤ ms.getD 5 0
theorem LinesOk.six {ms : List Nat} (h : LinesOk ms) : ∃ a b c d e f : Nat, ms = [a, b, c, d, e, f] ∧ (a ≤ 4 ∧ b ≤ 4 ∧ c ≤ 4 ∧ d ≤ 4 ∧ e ≤ 4 ∧ f ≤ 4) ∧ 1 ≤ a ∧ 1 ≤ d ∧ 1 ≤ f := by
  obtain ⟨hl, hle, h0, h3, h5⟩ := h
  obtain ⟨a, r, rfl, k1⟩ := cons_of_len hl
  obtain ⟨b, r, rfl, k2⟩ := cons_of_len k1
  obtain ⟨c, r, rfl, k3⟩ := cons_of_len k2
  obtain ⟨d, r, rfl, k4⟩ := cons_of_len k3
  obtain ⟨e, r, rfl, k5⟩ := cons_of_len k4
  obtain ⟨f, r, rfl, k6⟩ := cons_of_len k5
  cases List.length_eq_zero_iff.mp k6
  simp only [List.forall_mem_cons] at hle
  exact ⟨a, b, c, d, e, f, rfl, ⟨hle.1, hle.2.1, hle.2.2.1, hle.2.2.2.1, hle.2.2.2.2.1, hle.2.2.2.2.2.1⟩, h0, h3, h5⟩
theorem six_cases {P : Nat → Prop} (h0 : P 0) (h1 : P 1) (h2 : P 2) (h3 : P 3) (h4 : P 4) (h5 : P 5) {j : Nat} (hj : j < 6) : P j := by
  have : j = 0 ∨ j = 1 ∨ j = 2 ∨ j = 3 ∨ j = 4 ∨ j = 5 := by lia
  rcases this with rfl | rfl | rfl | rfl | rfl | rfl <;> assumption
theorem pair_cases {P : Nat → Int × Int → Prop} (h0 : P 0 (0, 1)) (h1 : P 1 (0, 2)) (h2 : P 2 (0, 3)) (h3 : P 3 (1, 2)) (h4 : P 4 (1, 3)) (h5 : P 5 (2, 3)) {j : Nat} {p : Int × Int} (hp : pairs6[j]? = some p) : P j p :=
  six_cases (P := fun j => ∀ p, pairs6[j]? = some p → P j p) (fun _ e => Option.some.inj e ▸ h0) (fun _ e => Option.some.inj e ▸ h1) (fun _ e => Option.some.inj e ▸ h2) (fun _ e => Option.some.inj e ▸ h3) (fun _ e => Option.some.inj e ▸ h4) (fun _ e => Option.some.inj e ▸ h5) (List.getElem?_eq_some_iff.mp hp).1 p hp
theorem LinesOk.grid {ms : List Nat} (h : LinesOk ms) {a b c d e f : Nat} (e6 : ms = [a, b, c, d, e, f]) : gridTo (intL ms) 6 = gridL a b c d e f := by
  subst e6
  exact gridTo_six a b c d e f
theorem LinesOk.pair {ms : List Nat} (h : LinesOk ms) {j : Nat} {p : Int × Int} (hp : pairs6[j]? = some p) : PairOk (gridTo (intL ms) 6) p.1 p.2 (PT ms j) (TR ms) := by
  obtain ⟨a, b, c, d, e, f, e6, _, h0, h3, h5⟩ := h.six
  rw [h.grid e6, e6]
  exact pair_cases (P := fun j p => PairOk (gridL a b c d e f) p.1 p.2 (partN a b c d e f j) (treesN a b c d e f)) (pairOk_0 a b c d e f h0 h3 h5) (pairOk_1 a b c d e f h0 h3 h5) (pairOk_2 a b c d e f h0 h3 h5) (pairOk_3 a b c d e f h0 h3 h5) (pairOk_4 a b c d e f h0 h3 h5) (pairOk_5 a b c d e f h0 h3 h5) hp
theorem LinesOk.tr {ms : List Nat} (h : LinesOk ms) : 1 ≤ TR ms ∧ TR ms ≤ 10000 := by
  obtain ⟨a, b, c, d, e, f, e6, ⟨k0, k1, k2, k3, k4, k5⟩, h0, h3, h5⟩ := h.six
  rw [e6]
  exact ⟨trees_pos a b c d e f h0 h3 h5, trees_le k0 k1 k2 k3 k4 k5⟩
theorem LinesOk.pt {ms : List Nat} (h : LinesOk ms) {j : Nat} (hj : j < 6) : 1 ≤ PT ms j ∧ PT ms j ≤ 10000 := by
  obtain ⟨a, b, c, d, e, f, e6, ⟨k0, k1, k2, k3, k4, k5⟩, h0, h3, h5⟩ := h.six
  rw [e6]
  exact six_cases (P := fun j => 1 ≤ partN a b c d e f j ∧ partN a b c d e f j ≤ 10000) ⟨part_pos0 a b c d e f h0 h3 h5, part_le0 k0 k1 k2 k3 k4 k5⟩ ⟨part_pos1 a b c d e f h0 h3 h5, part_le1 k0 k1 k2 k3 k4 k5⟩ ⟨part_pos2 a b c d e f h0 h3 h5, part_le2 k0 k1 k2 k3 k4 k5⟩ ⟨part_pos3 a b c d e f h0 h3 h5, part_le3 k0 k1 k2 k3 k4 k5⟩ ⟨part_pos4 a b c d e f h0 h3 h5, part_le4 k0 k1 k2 k3 k4 k5⟩ ⟨part_pos5 a b c d e f h0 h3 h5, part_le5 k0 k1 k2 k3 k4 k5⟩ hj
theorem small_neg {a : Nat} (h : a ≤ 4) : (0 - (a : Int)).natAbs < 2 ^ 10 := by lia
theorem small_sum {a b c : Nat} (h1 : a ≤ 4) (h2 : b ≤ 4) (h3 : c ≤ 4) : (0 + (a : Int) + (b : Int) + (c : Int)).natAbs < 2 ^ 10 := by lia
theorem small_row {w x y v : Int} (h1 : w.natAbs < 2 ^ 10) (h2 : x.natAbs < 2 ^ 10) (h3 : y.natAbs < 2 ^ 10) (h4 : v.natAbs < 2 ^ 10) : ∀ z ∈ [w, x, y, v], z.natAbs < 2 ^ 10 :=
  List.forall_mem_cons.mpr ⟨h1, List.forall_mem_cons.mpr ⟨h2, List.forall_mem_cons.mpr ⟨h3, List.forall_mem_cons.mpr ⟨h4, List.forall_mem_nil _⟩⟩⟩⟩
theorem grid_small {a b c d e f : Nat} (h : a ≤ 4 ∧ b ≤ 4 ∧ c ≤ 4 ∧ d ≤ 4 ∧ e ≤ 4 ∧ f ≤ 4) : ∀ zs ∈ gridL a b c d e f, ∀ z ∈ zs, z.natAbs < 2 ^ 10 :=
  let ⟨h0, h1, h2, h3, h4, h5⟩ := h
  List.forall_mem_cons.mpr ⟨small_row (small_sum h0 h1 h2) (small_neg h0) (small_neg h1) (small_neg h2), List.forall_mem_cons.mpr ⟨small_row (small_neg h0) (small_sum h0 h3 h4) (small_neg h3) (small_neg h4),
    List.forall_mem_cons.mpr ⟨small_row (small_neg h1) (small_neg h3) (small_sum h1 h3 h5) (small_neg h5), List.forall_mem_cons.mpr ⟨small_row (small_neg h2) (small_neg h4) (small_neg h5) (small_sum h2 h4 h5), List.forall_mem_nil _⟩⟩⟩⟩
theorem LinesOk.small {ms : List Nat} (h : LinesOk ms) : ∀ zs ∈ gridTo (intL ms) 6, ∀ z ∈ zs, z.natAbs < 2 ^ 10 := by
  obtain ⟨a, b, c, d, e, f, e6, k, _⟩ := h.six
  rw [h.grid e6]
  exact grid_small k
/-- the lines' parted forests, each as often as there are lines, summed up to j -/
noncomputable def sumTo (ms : List Nat) : Nat → Nat
  | 0 => 0
  | j + 1 => sumTo ms j + ms.getD j 0 * PT ms j
theorem LinesOk.foster {ms : List Nat} (h : LinesOk ms) : sumTo ms 6 = 3 * TR ms := by
  obtain ⟨a, b, c, d, e, f, e6, _⟩ := h.six
  rw [e6]
  refine Eq.trans ?_ (Mine.foster a b c d e f)
  show 0 + a * partN a b c d e f 0 + b * partN a b c d e f 1 + c * partN a b c d e f 2 + d * partN a b c d e f 3 + e * partN a b c d e f 4 + f * partN a b c d e f 5 = _
  rw [Nat.zero_add]
theorem LinesOk.more {ms : List Nat} (h : LinesOk ms) {j : Nat} (hj : j < 6) : TR (ms.set j (ms.getD j 0 + 1)) = TR ms + PT ms j ∧ PT (ms.set j (ms.getD j 0 + 1)) j = PT ms j := by
  obtain ⟨a, b, c, d, e, f, e6, _⟩ := h.six
  rw [e6]
  exact six_cases (P := fun j => TR ([a, b, c, d, e, f].set j ([a, b, c, d, e, f].getD j 0 + 1)) = TR [a, b, c, d, e, f] + PT [a, b, c, d, e, f] j ∧ PT ([a, b, c, d, e, f].set j ([a, b, c, d, e, f].getD j 0 + 1)) j = PT [a, b, c, d, e, f] j) (more_0 a b c d e f) (more_1 a b c d e f) (more_2 a b c d e f) (more_3 a b c d e f) (more_4 a b c d e f) (more_5 a b c d e f) hj
theorem LinesOk.moreOk {ms : List Nat} (h : LinesOk ms) (h3 : ∀ m ∈ ms, m ≤ 3) {j : Nat} (hj : j < 6) : LinesOk (ms.set j (ms.getD j 0 + 1)) := by
  have hg : ∀ i : Nat, ms.getD i 0 ≤ (ms.set j (ms.getD j 0 + 1)).getD i 0 := fun i => by
    rw [List.getD_eq_getElem?_getD, List.getD_eq_getElem?_getD, List.getD_eq_getElem?_getD]
    by_cases e : j = i
    · subst e
      rw [List.getElem?_set_self (by rw [h.len]; exact hj), Option.getD_some]
      exact Nat.le_succ _
    · rw [List.getElem?_set_ne e]
      exact Nat.le_refl _
  refine ⟨by rw [List.length_set, h.len], fun m hm => ?_, Nat.le_trans h.l0 (hg 0), Nat.le_trans h.l3 (hg 3), Nat.le_trans h.l5 (hg 5)⟩
  rcases List.mem_or_eq_of_mem_set hm with hm | rfl
  · exact Nat.le_succ_of_le (h3 m hm)
  · rw [List.getD_eq_getElem?_getD, List.getElem?_eq_getElem (by rw [h.len]; exact hj), Option.getD_some]
    exact Nat.succ_le_succ (h3 _ (List.getElem_mem _))
theorem intL_set (ms : List Nat) (j m : Nat) : intL (ms.set j m) = (intL ms).set j ((m : Nat) : Int) := List.map_set ..
theorem intL_get {ms : List Nat} {j : Nat} {z : Int} (h : (intL ms)[j]? = some z) : ms[j]? = some (ms.getD j 0) ∧ z = ((ms.getD j 0 : Nat) : Int) := by
  unfold intL at h
  rw [List.getElem?_map] at h
  cases e : ms[j]? with
  | none => rw [e] at h; cases h
  | some m =>
    rw [e] at h
    rw [List.getD_eq_getElem?_getD, e]
    exact ⟨rfl, (Option.some.inj h).symm⟩
/-- where the pairs begin that have i as their first -/
noncomputable def off6 : Nat → Nat
  | 0 => 0
  | 1 => 3
  | 2 => 5
  | _ => 6
theorem off6_pair : ∀ i < 4, ∀ j < 3 - i, pairs6[off6 i + j]? = some (((i : Nat) : Int), ((i : Nat) : Int) + 1 + ((j : Nat) : Int)) := by decide
theorem off6_next : ∀ i < 4, off6 i + (3 - i) = off6 (i + 1) := by decide
theorem off6_low : ∀ i < 4, ∀ j < 3 - i, (off6 i + j = 0 ∨ off6 i + j = 3 ∨ off6 i + j = 5) → j = 0 := by decide
theorem lay_but : ∀ p ∈ pairs6, PyData.layable0 (.list ((but1 p.2).map .int)) = true ∧ PyData.layable0 (.list ((but1 p.1).map .int)) = true := by decide
theorem num_le {a b : Int} : (Rat.divInt a b).num.natAbs ≤ a.natAbs := by
  rw [Rat.num_divInt]
  refine Nat.le_trans (Int.natAbs_ediv_le_natAbs _ _) ?_
  rw [Int.natAbs_mul]
  have : b.sign.natAbs ≤ 1 := by rcases Int.lt_trichotomy b 0 with h | h | h <;> simp [Int.sign_eq_neg_one_of_neg, Int.sign_eq_one_of_pos, h]
  calc _ ≤ 1 * a.natAbs := Nat.mul_le_mul_right _ this
    _ = _ := Nat.one_mul _
theorem den_le {a b : Int} (hb : b ≠ 0) : (Rat.divInt a b).den ≤ b.natAbs := by
  rw [Rat.den_divInt, if_neg hb]
  exact Nat.div_le_self _ _
/-- one line more: r becomes r by 1 + r -/
theorem one_more {D T : Nat} (hT : 1 ≤ T) : Rat.divInt ((D : Nat) : Int) ((T + D : Nat) : Int) = Rat.divInt (Rat.divInt (D : Nat) (T : Nat)).num ((Rat.divInt (D : Nat) (T : Nat)).num + ((Rat.divInt (D : Nat) (T : Nat)).den : Nat)) := by
  have hq : (Rat.divInt (D : Nat) (T : Nat)).num * (T : Nat) = (D : Nat) * ((Rat.divInt (D : Nat) (T : Nat)).den : Nat) := by
    have h1 : Rat.divInt (Rat.divInt (D : Nat) (T : Nat)).num ((Rat.divInt (D : Nat) (T : Nat)).den : Nat) = Rat.divInt ((D : Nat) : Int) ((T : Nat) : Int) := Rat.num_divInt_den _
    exact (Rat.divInt_eq_divInt_iff (by have := (Rat.divInt (D : Nat) (T : Nat)).den_nz; lia) (by lia)).mp h1
  have hn : 0 ≤ (Rat.divInt (D : Nat) (T : Nat)).num := by
    rw [Rat.num_nonneg]
    exact Rat.divInt_nonneg (by lia) (by lia)
  have hd := (Rat.divInt (D : Nat) (T : Nat)).den_nz
  generalize (Rat.divInt ((D : Nat) : Int) ((T : Nat) : Int)).num = n at *
  generalize (Rat.divInt ((D : Nat) : Int) ((T : Nat) : Int)).den = d at *
  refine (Rat.divInt_eq_divInt_iff (by lia) (by lia)).mpr ?_
  push_cast
  rw [Int.mul_add, Int.mul_add, hq, Int.mul_comm n, Int.add_comm]
end Mine
-- LawLib3
set_option maxRecDepth 100000
set_option maxHeartbeats 4000000
namespace Mine
open PySem PySem.Spec PySem.Calls PyProof.Rows PyProof.Rows.LCg PySem.W
theorem Ints.ofAre {vs : List Value} {ns : List Int} (h : IntsAre vs ns) : Ints vs ns := by
  induction h with
  | nil => exact .nil
  | cons n t _ ih => exact .cons ih
/-- so many lines are laid, as the law lays them -/
def FillOk (n : Nat) (ms : List Nat) : Prop := ms.length = n ∧ (∀ m ∈ ms, m ≤ 3) ∧ ∀ i : Nat, i < n → (i = 0 ∨ i = 3 ∨ i = 5) → 1 ≤ ms.getD i 0
theorem FillOk.nil : FillOk 0 [] := ⟨rfl, (fun _ h => nomatch h), fun i h => absurd h (Nat.not_lt_zero i)⟩
theorem FillOk.snoc {n m : Nat} {ms : List Nat} (h : FillOk n ms) (hm : m ≤ 3) (hl : n = 0 ∨ n = 3 ∨ n = 5 → 1 ≤ m) : FillOk (n + 1) (ms ++ [m]) := by
  refine ⟨by rw [List.length_append, h.1]; rfl, fun x hx => ?_, fun i hi hc => ?_⟩
  · rcases List.mem_append.mp hx with hx | hx
    · exact h.2.1 x hx
    · rw [List.mem_singleton.mp hx]; exact hm
  · rw [List.getD_eq_getElem?_getD]
    by_cases e : i < n
    · rw [List.getElem?_append_left (by rw [h.1]; exact e), ← List.getD_eq_getElem?_getD]
      exact h.2.2 i e hc
    · have e' : i = n := by lia
      subst e'
      rw [List.getElem?_append_right (by rw [h.1]; exact Nat.le_refl _), h.1, Nat.sub_self]
      exact hl hc
theorem FillOk.ok {ms : List Nat} (h : FillOk 6 ms) : LinesOk ms := ⟨h.1, fun m hm => Nat.le_succ_of_le (h.2.1 m hm), h.2.2 0 (by decide) (by decide), h.2.2 3 (by decide) (by decide), h.2.2 5 (by decide) (by decide)⟩
section
variable {prog : Program} {w : World} {h₀ h' : Heap} {L P Y d X : Addr} {own base tl tl2 led₂ : List (Addr × Obj)} {od od' od2 : Obj} {ms : List Nat} {t t' t2 tX uX : Tok} {kk kk' k2 n k m tk : Nat} {p : Int × Int} {z : Int} {m₂ : Str → Option Value} {s₁ : Shared} {Q : Flow → Shared → Prop} {ex : (Str → Option Value) → Prop}
/-- what the loops that lay the lines keep -/
def FillJ (prog : Program) (w : World) (P Y d : Addr) (base : List (Addr × Obj)) (ex : (Str → Option Value) → Prop) (n : Nat) (m₁ : Str → Option Value) (led₁ : List (Addr × Obj)) : Prop :=
  ∃ (tl : List (Addr × Obj)) (od : Obj) (ms : List Nat) (t : Tok) (k : Nat), led₁ = (d, od) :: (P, { cls := .type "list", data := .seq (List.toArray [.ref Y, .int (n : Nat) t]) k }) :: (tl ++ base) ∧ (∀ p ∈ tl, ∀ q ∈ base, q.1 < p.1) ∧ (∀ p ∈ tl, d < p.1) ∧ IsLines prog w (tl ++ base) d od (pairs6.take n) (intL ms) ∧ FillOk n ms ∧
    m₁ (Str.ofString "bag") = some (.ref P) ∧ m₁ (Str.ofString "lines") = some (.ref d) ∧ ex m₁
theorem fill_close (ht : ∀ p ∈ tl, ∀ q ∈ base, q.1 < p.1) (htd : ∀ p ∈ tl, d < p.1) (hX : ∀ q ∈ own ++ (tl ++ base), q.1 < X) (hXd : d < X) (hown : ∀ q ∈ own, q.2.cls = .type "range_iterator") (F : Fr h₀ L h' m₂)
    (N : News h₀ L h' ((d, od') :: (X, { cls := .type "tuple", data := .seq #[.int p.1 tX, .int p.2 uX] }) :: (P, { cls := .type "list", data := .seq (List.toArray [.ref Y, .int ((k + 1 : Nat) : Int) t']) kk' }) :: (own ++ (tl ++ base))))
    (hl : IsLines prog w ((X, { cls := .type "tuple", data := .seq #[.int p.1 tX, .int p.2 uX] }) :: (P, { cls := .type "list", data := .seq (List.toArray [.ref Y, .int ((k + 1 : Nat) : Int) t']) kk' }) :: (own ++ (tl ++ base))) d od' (pairs6.take k ++ [p]) (intL ms ++ [z]))
    (hp : pairs6[k]? = some p) (hok : FillOk k ms) (hz : z = ((m : Nat) : Int)) (hm : m ≤ 3) (hlow : k = 0 ∨ k = 3 ∨ k = 5 → 1 ≤ m) (e1 : m₂ (Str.ofString "bag") = some (.ref P)) (e2 : m₂ (Str.ofString "lines") = some (.ref d)) (e3 : ex m₂) :
    ForOut h₀ L own ((d, od) :: (P, { cls := .type "list", data := .seq (List.toArray [.ref Y, .int (k : Nat) t]) kk }) :: (tl ++ base)) (FillJ prog w P Y d base ex (k + 1)) s₁ Q .next { s₁ with heap := h', toks := tk } := by
  subst hz
  refine ⟨h', tk, m₂, (d, od') :: (P, { cls := .type "list", data := .seq (List.toArray [.ref Y, .int ((k + 1 : Nat) : Int) t']) kk' }) :: (((X, { cls := .type "tuple", data := .seq #[.int p.1 tX, .int p.2 uX] }) :: tl) ++ base), rfl, F, fun q hq => N q ?_, fun q hq => ?_,
    ⟨(X, { cls := .type "tuple", data := .seq #[.int p.1 tX, .int p.2 uX] }) :: tl, od', ms ++ [m], t', kk', rfl, fun q hq r hr => ?_, fun q hq => ?_, ?_, hok.snoc hm hlow, e1, e2, e3⟩⟩
  · simp only [List.mem_append, List.mem_cons] at hq ⊢
    rcases hq with h | h | h | (h | h) | h
    · exact .inr (.inr (.inr (.inl h)))
    · exact .inl h
    · exact .inr (.inr (.inl h))
    · exact .inr (.inl h)
    · exact .inr (.inr (.inr (.inr (.inl h))))
    · exact .inr (.inr (.inr (.inr (.inr h))))
  · rcases List.mem_cons.mp hq with rfl | hq
    · exact .inl ⟨_, List.mem_cons_self, rfl⟩
    · rcases List.mem_cons.mp hq with rfl | hq
      · exact .inl ⟨_, List.mem_cons_of_mem _ List.mem_cons_self, rfl⟩
      · rcases List.mem_cons.mp hq with rfl | hq
        · exact .inr fun r hr => hX r (List.mem_append_left _ hr)
        · exact .inl ⟨q, List.mem_cons_of_mem _ (List.mem_cons_of_mem _ hq), rfl⟩
  · rcases List.mem_cons.mp hq with rfl | hq
    · exact hX r (List.mem_append_right _ (List.mem_append_right _ hr))
    · exact ht q hq r hr
  · rcases List.mem_cons.mp hq with rfl | hq
    · exact hXd
    · exact htd q hq
  · have e : pairs6.take (k + 1) = pairs6.take k ++ [p] := by rw [List.take_add_one, hp]; rfl
    have e' : intL (ms ++ [m]) = intL ms ++ [((m : Nat) : Int)] := List.map_append ..
    rw [e, e']
    refine hl.mono fun q hq hc => ?_
    rcases List.mem_cons.mp hq with rfl | hq
    · exact List.mem_cons_self
    · rcases List.mem_cons.mp hq with rfl | hq
      · exact absurd (show Value.type "list" = Value.type "tuple" from hc) (by decide)
      · rcases List.mem_append.mp hq with hq | hq
        · rw [hown q hq] at hc
          exact absurd hc (by decide)
        · exact List.mem_cons_of_mem _ hq
theorem fill_outer (hJ : FillJ prog w P Y d (tl ++ (own ++ base)) ex n m₂ led₂) (ht : ∀ p ∈ tl, ∀ q ∈ base, q.1 < p.1) (htd : ∀ p ∈ tl, d < p.1) (hown : ∀ q ∈ own, q.2.cls = .type "range_iterator") (F : Fr h₀ L h' m₂) (N : News h₀ L h' led₂) (e : n = k) :
    ForOut h₀ L own ((d, od) :: (P, od2) :: (tl ++ base)) (FillJ prog w P Y d base (fun _ => True) k) s₁ Q .next { s₁ with heap := h', toks := tk } := by
  subst e
  obtain ⟨tl2, od9, ms, t, kk, rfl, h1, h2, hl, hok, e1, e2, _⟩ := hJ
  refine ⟨h', tk, m₂, (d, od9) :: (P, { cls := .type "list", data := .seq (List.toArray [.ref Y, .int (n : Nat) t]) kk }) :: ((tl2 ++ tl) ++ base), rfl, F, fun q hq => N q ?_, fun q hq => ?_, ⟨tl2 ++ tl, od9, ms, t, kk, rfl, fun q hq r hr => ?_, fun q hq => ?_, ?_, hok, e1, e2, trivial⟩⟩
  · simp only [List.mem_append, List.mem_cons] at hq ⊢
    rcases hq with h | h | h | (h | h) | h
    · exact .inr (.inr (.inr (.inr (.inl h))))
    · exact .inl h
    · exact .inr (.inl h)
    · exact .inr (.inr (.inl h))
    · exact .inr (.inr (.inr (.inl h)))
    · exact .inr (.inr (.inr (.inr (.inr h))))
  · rcases List.mem_cons.mp hq with rfl | hq
    · exact .inl ⟨_, List.mem_cons_self, rfl⟩
    · rcases List.mem_cons.mp hq with rfl | hq
      · exact .inl ⟨_, List.mem_cons_of_mem _ List.mem_cons_self, rfl⟩
      · rw [List.append_assoc] at hq
        rcases List.mem_append.mp hq with hq | hq
        · exact .inr fun r hr => h1 q hq r (List.mem_append_right _ (List.mem_append_left _ hr))
        · exact .inl ⟨q, List.mem_cons_of_mem _ (List.mem_cons_of_mem _ hq), rfl⟩
  · rcases List.mem_append.mp hq with hq | hq
    · exact h1 q hq r (List.mem_append_right _ (List.mem_append_right _ hr))
    · exact ht q hq r hr
  · rcases List.mem_append.mp hq with hq | hq
    · exact h2 q hq
    · exact htd q hq
  · refine hl.mono fun q hq hc => ?_
    simp only [List.mem_append] at hq ⊢
    rcases hq with h | h | h | h
    · exact .inl (.inl h)
    · exact .inl (.inr h)
    · rw [hown q h] at hc
      exact absurd hc (by decide)
    · exact .inr h
theorem fill_inner (ht : ∀ p ∈ tl, ∀ q ∈ base, q.1 < p.1) (hl : IsLines prog w (tl ++ base) d od (pairs6.take n) (intL ms)) (hok : FillOk n ms) (e1 : m₂ (Str.ofString "bag") = some (.ref P)) (e2 : m₂ (Str.ofString "lines") = some (.ref d)) (e3 : ex m₂) :
    FillJ prog w P Y d (tl ++ (own ++ base)) ex n m₂ ((d, od) :: (P, { cls := .type "list", data := .seq (List.toArray [.ref Y, .int (n : Nat) t]) kk }) :: (tl ++ (own ++ base))) :=
  ⟨[], od, ms, t, kk, rfl, (fun _ h => nomatch h), (fun _ h => nomatch h), hl.mono fun q hq _ => by
    show q ∈ tl ++ (own ++ base)
    rcases List.mem_append.mp hq with hq | hq
    · exact List.mem_append_left _ hq
    · exact List.mem_append_right _ (List.mem_append_right _ hq), hok, e1, e2, e3⟩
theorem lines_nil {led : List (Addr × Obj)} (lo : (d == sysModules) = false) (h : od.IsDictOf (intKind prog w) []) : IsLines prog w led d od (pairs6.take 0) (intL []) := by
  obtain ⟨es, ep, hc, hdat, _, hp, _⟩ := h
  exact ⟨lo, hc, List.nodup_nil, es, ep, [], hdat, List.length_eq_zero_iff.mp hp.length, .nil⟩
end
end Mine
namespace Mine
open PySem PySem.Spec PySem.Calls PyProof.Rows PyProof.Rows.LCg PySem.W
theorem pairs6_fresh {k : Nat} {p : Int × Int} (h : pairs6[k]? = some p) : p ∉ pairs6.take k := by
  have h1 : ∀ k < 6, pairs6.getD k (0, 0) ∉ pairs6.take k := by decide
  have h2 := h1 k (List.getElem?_eq_some_iff.mp h).1
  rwa [List.getD_eq_getElem?_getD, h, Option.getD_some] at h2
/-- the end of a step that gives an int of which R holds, the heap as it was -/
def IntEnd (s : Shared) (R : Int → Prop) (v : Value) (s' : Shared) : Prop := ∃ z t tk, v = .int z t ∧ R z ∧ s' = { s with toks := tk }
theorem cut_int {M : Model} {A : Around} {E : Value → Shared → Prop} {s : Shared} {Q : Value → Shared → Prop} {e : Expr} {env : Env} (R : Int → Prop) (h1 : wpAny M A (eval e env) (IntEnd s R) E s) (h2 : ∀ z t tk, R z → Q (.int z t) { s with toks := tk }) : wpAny M A (eval e env) Q E s :=
  wpAny_mono h1 (fun v s' ⟨z, t, tk, e, r, e'⟩ => by subst e e'; exact h2 z t tk r) fun _ _ e => e
end Mine
namespace Mine
open PySem PySem.Spec PySem.Calls PyProof.Rows PyProof.Rows.LCg PySem.W
section
variable {prog : Program} {w : World} {A : Around} {E : Value → Shared → Prop} {s : Shared} {h₀ : Heap} {L x y : Addr} {led : List (Addr × Obj)} {a b : Int} {t u t' u' : Tok} {Q : Value → Shared → Prop}
theorem two_shaped (a b : Int) : SeqAt.shaped (.tuple [.int a, .int b]) = true := by simp [SeqAt.shaped, PyData.canLay0, PyData.depth, PyData.canLayAll0, PyData.depthAll]
theorem two_same (a b : Int) : PySem.Spec.same (.tuple [.int a, .int b]) (.tuple [.int a, .int b]) = true := by simp [PySem.Spec.same, PySem.Spec.sameAll]
/-- two tuples that hold the same two ints -/
theorem eq_two (N : News h₀ L s.heap led) (mx : (x, ({ cls := .type "tuple", data := .seq #[.int a t, .int b u] } : Obj)) ∈ led) (my : (y, ({ cls := .type "tuple", data := .seq #[.int a t', .int b u'] } : Obj)) ∈ led) (hu : A.units + 64 < cLine) (h : Q (.bool true) s) :
    wpAny (model prog w) A (compareOp .Eq (.ref x) (.ref y)) Q E s :=
  eq_dataH_same (reads_tuple_at (N.get mx) rfl rfl (.cons (.int _ _) (.cons (.int _ _) .nil))) (reads_tuple_at (N.get my) rfl rfl (.cons (.int _ _) (.cons (.int _ _) .nil))) (two_shaped a b) (two_shaped a b) hu (by simp [SeqAt.noMix, SeqAt.noMixAll]) (by rw [two_same]; exact h)
theorem ne_two (N : News h₀ L s.heap led) (mx : (x, ({ cls := .type "tuple", data := .seq #[.int a t, .int b u] } : Obj)) ∈ led) (my : (y, ({ cls := .type "tuple", data := .seq #[.int a t', .int b u'] } : Obj)) ∈ led) (hu : A.units + 64 < cLine) (h : Q (.bool false) s) :
    wpAny (model prog w) A (compareOp .NotEq (.ref x) (.ref y)) Q E s :=
  ne_dataH_same (reads_tuple_at (N.get mx) rfl rfl (.cons (.int _ _) (.cons (.int _ _) .nil))) (reads_tuple_at (N.get my) rfl rfl (.cons (.int _ _) (.cons (.int _ _) .nil))) (two_shaped a b) (two_shaped a b) hu (by simp [SeqAt.noMix, SeqAt.noMixAll]) (by rw [two_same]; exact h)
end
end Mine
namespace Mine
open PySem PySem.Spec PySem.Calls PyProof.Rows PyProof.Rows.LCg PySem.W
theorem mem_less {P : Addr} {oP : Obj} {x : Addr × Obj} {a b : List (Addr × Obj)} {p : Addr × Obj} (h : p ∈ a ++ x :: (P, oP) :: b) (hp : p.1 ≠ P) : p ∈ a ++ x :: b := by
  simp only [List.mem_append, List.mem_cons] at h ⊢
  rcases h with h | h | h | h
  · exact .inl h
  · exact .inr (.inl h)
  · rw [h] at hp; exact absurd rfl hp
  · exact .inr (.inr h)
theorem mem_more {q x : Addr × Obj} {a b : List (Addr × Obj)} {p : Addr × Obj} (h : p ∈ q :: (a ++ x :: b)) : p ∈ a ++ x :: q :: b := by
  simp only [List.mem_append, List.mem_cons] at h ⊢
  rcases h with h | h | h | h
  · exact .inr (.inr (.inl h))
  · exact .inl h
  · exact .inr (.inl h)
  · exact .inr (.inr (.inr h))
/-- what the loop over the lines keeps -/
def SumJ (R d P : Addr) (ms : List Nat) (base : List (Addr × Obj)) (j : Nat) (m₁ : Str → Option Value) (led₁ : List (Addr × Obj)) : Prop :=
  led₁ = base ∧ m₁ (Str.ofString "grid") = some (.ref R) ∧ m₁ (Str.ofString "lines") = some (.ref d) ∧ m₁ (Str.ofString "bag") = some (.ref P) ∧ (∃ t, m₁ (Str.ofString "total") = some (.int (sumTo ms j : Nat) t)) ∧ ∃ tr t, m₁ (Str.ofString "trees") = some (.int tr t) ∧ (j = 0 ∨ tr = ((TR ms : Nat) : Int))
end Mine
namespace Mine
theorem sumTo_more {ms : List Nat} {j : Nat} : ((sumTo ms j : Nat) : Int) + ((ms.getD j 0 : Nat) : Int) * ((PT ms j : Nat) : Int) = ((sumTo ms (j + 1) : Nat) : Int) := by
  show _ = ((sumTo ms j + ms.getD j 0 * PT ms j : Nat) : Int)
  push_cast
  rfl
theorem sumTo_same {ms : List Nat} {j : Nat} (h : ms.getD j 0 = 0) : sumTo ms (j + 1) = sumTo ms j := by
  show sumTo ms j + ms.getD j 0 * PT ms j = _
  rw [h, Nat.zero_mul, Nat.add_zero]
end Mine
namespace Mine
open PySem PySem.Spec PySem.Calls PyProof.Rows PyProof.Rows.LCg PySem.W
theorem dict_ne {h₀ h : Heap} {L d : Addr} {od : Obj} {led : List (Addr × Obj)} (N : News h₀ L h led) (hm : (d, od) ∈ led) (hx : od.ExactDict) : ∀ p ∈ led, p.2.cls = .type "tuple" → p.1 ≠ d := fun p hp hc e => by
  have h1 := (N p hp).1
  rw [e, (N _ hm).1] at h1
  rw [← Option.some.inj h1, hx.1] at hc
  exact absurd hc (by decide)
theorem intL_at {ms : List Nat} {j : Nat} (h : j < ms.length) : (intL ms)[j]? = some ((ms.getD j 0 : Nat) : Int) := by
  unfold intL
  rw [List.getElem?_map, List.getD_eq_getElem?_getD, List.getElem?_eq_getElem h]
  rfl
theorem last_eq {ms : List Nat} (h : LinesOk ms) {j : Nat} (hj : j < 6) : Rat.divInt ((PT (ms.set j (ms.getD j 0 + 1)) j : Nat) : Int) ((TR (ms.set j (ms.getD j 0 + 1)) : Nat) : Int) =
    Rat.divInt (Rat.divInt ((PT ms j : Nat) : Int) ((TR ms : Nat) : Int)).num ((Rat.divInt ((PT ms j : Nat) : Int) ((TR ms : Nat) : Int)).num + ((Rat.divInt ((PT ms j : Nat) : Int) ((TR ms : Nat) : Int)).den : Nat)) := by
  rw [(h.more hj).1, (h.more hj).2]
  exact one_more h.tr.1
theorem last_bits {ms : List Nat} (h : LinesOk ms) {j : Nat} (hj : j < 6) : (Rat.divInt ((PT ms j : Nat) : Int) ((TR ms : Nat) : Int)).num + ((Rat.divInt ((PT ms j : Nat) : Int) ((TR ms : Nat) : Int)).den : Nat) ≠ 0 ∧
    Builtin.Int.intBits ((Rat.divInt ((PT ms j : Nat) : Int) ((TR ms : Nat) : Int)).num + ((Rat.divInt ((PT ms j : Nat) : Int) ((TR ms : Nat) : Int)).den : Nat)) ≤ 8000 := by
  have h1 : 0 ≤ (Rat.divInt ((PT ms j : Nat) : Int) ((TR ms : Nat) : Int)).num := by
    rw [Rat.num_nonneg]
    exact Rat.divInt_nonneg (by lia) (by lia)
  have h2 := (Rat.divInt ((PT ms j : Nat) : Int) ((TR ms : Nat) : Int)).den_nz
  have h3 := num_le (a := ((PT ms j : Nat) : Int)) (b := ((TR ms : Nat) : Int))
  have h4 := den_le (a := ((PT ms j : Nat) : Int)) (b := ((TR ms : Nat) : Int)) (by have := h.tr.1; lia)
  have h5 := h.tr.2
  have h6 := (h.pt hj).2
  generalize (Rat.divInt ((PT ms j : Nat) : Int) ((TR ms : Nat) : Int)).num = n at *
  generalize (Rat.divInt ((PT ms j : Nat) : Int) ((TR ms : Nat) : Int)).den = d at *
  exact ⟨by lia, Nat.le_trans (intBits_le_64 (by lia) (by lia)) (by decide)⟩
end Mine
end
namespace Mine
open PySem PySem.W PyProof.Rows
set_option maxHeartbeats 8000000 in
open_top hd for PySem.Challenge.rw_xm0049_02
end Mine
open PySem PySem.W PyProof.Rows PySem.Calls PySem.Spec
set_option Elab.async false
set_option maxRecDepth 100000
set_option maxHeartbeats 2000000
namespace Mine

abbrev PR := PySem.Challenge.rw_xm0049_02.row.prog
abbrev TopP (mean : ExcName → Option Value) (mg mb : Str → Option Value) (h : Heap) : Prop :=
  Top Mine.hd.view_39 (looseW Mine.hd.view_39 [Str.ofString "BasicError"]) mean mg mb h

theorem room1 {a k m L : Nat} (h : a + m < L) (hk : 1 + k ≤ m) : a + 1 + k < L := by lia
theorem units1 {a k m L : Nat} (h : a + 8 * m < L) (hk : 3 + 8 * k ≤ 8 * m) : a + 3 + 8 * k < L := by lia
/-- what a call of the def at `fa` tells, from a ledger `led` and the arguments `vs` -/
def Tell (w : World) (mean : ExcName → Option Value) (mg mb : Str → Option Value) (fa : Addr) (need : Nat) (led : List (Addr × Obj)) (vs : List Value)
    (Post : List (Addr × Obj) → Value → Prop) : Prop :=
  ∀ (dp un : Nat) (gd : Option (List Code)) (cn : Str) (cs : Scope) (a : Addr) (ccd : Value) (cl : List (Str × Addr)) (outer : List Env) (A₀ : Around) (base h₀ : Heap) (L : Addr) (m : Str → Option Value) (s : Shared) (Q E : Value → Shared → Prop),
    Below A₀ base outer h₀ → Fr h₀ L s.heap m → (Mine.hd.heap_39 w.params).In h₀ → News h₀ L s.heap led → TopP mean mg mb h₀ → cs.kind = .function → dp + need < recursionLimit → un + 8 * need < cLine →
    (∀ r led' h' tk', Fr h₀ L h' m → News h₀ L h' led' → Post led' r → Q r { s with heap := h', toks := tk' }) →
    wpAny (model PR w) (ktrTop dp un gd cn cs L a ccd cl outer) (call (.ref fa) vs) Q E s
theorem Tell.use {w : World} {mean : ExcName → Option Value} {mg mb : Str → Option Value} {fa : Addr} {need : Nat} {led : List (Addr × Obj)} {vs : List Value} {Post : List (Addr × Obj) → Value → Prop}
    {dp un : Nat} {gd : Option (List Code)} {cn : Str} {cs : Scope} {a : Addr} {ccd : Value} {cl : List (Str × Addr)} {outer : List Env} {A₀ : Around} {base h₀ : Heap} {L : Addr} {m : Str → Option Value} {s : Shared} {Q E : Value → Shared → Prop}
    (N : News h₀ L s.heap led) (B : Below A₀ base outer h₀) (F : Fr h₀ L s.heap m) (X : (Mine.hd.heap_39 w.params).In h₀) (T : TopP mean mg mb h₀) (hk : cs.kind = .function) (C : Tell w mean mg mb fa need led vs Post) (hd : dp + need < recursionLimit) (hu : un + 8 * need < cLine)
    (ret : ∀ r led' h' tk', Fr h₀ L h' m → News h₀ L h' led' → Post led' r → Q r { s with heap := h', toks := tk' }) :
    wpAny (model PR w) (ktrTop dp un gd cn cs L a ccd cl outer) (call (.ref fa) vs) Q E s := C _ _ _ _ _ _ _ _ _ _ _ _ _ _ _ _ _ B F X N T hk hd hu ret
theorem News.drop {h₀ h : Heap} {L : Addr} {news news' : List (Addr × Obj)} (N : News h₀ L h news') (hs : ∀ p ∈ news, p ∈ news') : News h₀ L h news := fun p hp => N p (hs p hp)
def PostQ (led : List (Addr × Obj)) (q : Rat) (led' : List (Addr × Obj)) (r : Value) : Prop := ∃ x t1 t2, r = .ref x ∧ AllLt x led ∧ led' = (x, { cls := .type "tuple", data := .seq #[.int q.num t1, .int (q.den : Nat) t2] }) :: led
theorem PostQ.mk {led : List (Addr × Obj)} {q : Rat} {x : Addr} {n d : Int} {t1 t2 : Tok} (hl : AllLt x led) (hn : n = q.num) (hd : d = (q.den : Nat)) :
    PostQ led q ((x, { cls := .type "tuple", data := .seq #[.int n t1, .int d t2] }) :: led) (.ref x) := by
  subst hn hd
  exact ⟨x, t1, t2, rfl, hl, rfl⟩
section
variable {w : World} {mean : ExcName → Option Value} {mg mb : Str → Option Value} {fa : Addr} {need : Nat} {led : List (Addr × Obj)} {vs : List Value} {Post : List (Addr × Obj) → Value → Prop}
  {dp un : Nat} {gd : Option (List Code)} {cn : Str} {cs : Scope} {a : Addr} {ccd : Value} {cl : List (Str × Addr)} {outer : List Env} {A₀ : Around} {base h₀ : Heap} {L : Addr} {m : Str → Option Value} {s : Shared} {Q E : Value → Shared → Prop}
theorem Tell.goI {z : Int} (N : News h₀ L s.heap led) (B : Below A₀ base outer h₀) (F : Fr h₀ L s.heap m) (X : (Mine.hd.heap_39 w.params).In h₀) (T : TopP mean mg mb h₀) (hk : cs.kind = .function)
    (C : Tell w mean mg mb fa need led vs (fun led' r => led' = led ∧ ∃ t, r = .int z t)) (ret : ∀ t h' tk', Fr h₀ L h' m → News h₀ L h' led → Q (.int z t) { s with heap := h', toks := tk' })
    (hd : dp + need < recursionLimit) (hu : un + 8 * need < cLine) :
    wpAny (model PR w) (ktrTop dp un gd cn cs L a ccd cl outer) (call (.ref fa) vs) Q E s := Tell.use N B F X T hk C hd hu fun r led' h' tk' F' N' P => by
  obtain ⟨rfl, t, rfl⟩ := P
  exact ret t h' tk' F' N'
theorem Tell.goN {y z : Int} (N : News h₀ L s.heap led) (B : Below A₀ base outer h₀) (F : Fr h₀ L s.heap m) (X : (Mine.hd.heap_39 w.params).In h₀) (T : TopP mean mg mb h₀) (hk : cs.kind = .function)
    (C : Tell w mean mg mb fa need led vs (fun led' r => ∃ x t1 t2, r = .ref x ∧ AllLt x led ∧ led' = (x, { cls := .type "tuple", data := .seq #[.int y t1, .int z t2] }) :: led))
    (ret : ∀ x t u h' tk', AllLt x led → Fr h₀ L h' m → News h₀ L h' ((x, { cls := .type "tuple", data := .seq #[.int y t, .int z u] }) :: led) → Q (.ref x) { s with heap := h', toks := tk' })
    (hd : dp + need < recursionLimit) (hu : un + 8 * need < cLine) :
    wpAny (model PR w) (ktrTop dp un gd cn cs L a ccd cl outer) (call (.ref fa) vs) Q E s := Tell.use N B F X T hk C hd hu fun r led' h' tk' F' N' P => by
  obtain ⟨x, t, u, rfl, l, rfl⟩ := P
  exact ret x t u h' tk' l F' N'
theorem Tell.goQ {q : Rat} (N : News h₀ L s.heap led) (B : Below A₀ base outer h₀) (F : Fr h₀ L s.heap m) (X : (Mine.hd.heap_39 w.params).In h₀) (T : TopP mean mg mb h₀) (hk : cs.kind = .function)
    (C : Tell w mean mg mb fa need led vs (PostQ led q))
    (ret : ∀ x t u h' tk', AllLt x led → Fr h₀ L h' m → News h₀ L h' ((x, { cls := .type "tuple", data := .seq #[.int q.num t, .int (q.den : Nat) u] }) :: led) → Q (.ref x) { s with heap := h', toks := tk' })
    (hd : dp + need < recursionLimit) (hu : un + 8 * need < cLine) :
    wpAny (model PR w) (ktrTop dp un gd cn cs L a ccd cl outer) (call (.ref fa) vs) Q E s := Tell.goN N B F X T hk C ret hd hu
theorem Tell.goF {P : Int → Prop} (N : News h₀ L s.heap led) (B : Below A₀ base outer h₀) (F : Fr h₀ L s.heap m) (X : (Mine.hd.heap_39 w.params).In h₀) (T : TopP mean mg mb h₀) (hk : cs.kind = .function)
    (C : Tell w mean mg mb fa need led vs (fun led' r => led' = led ∧ ∃ F u, r = .int F u ∧ P F))
    (ret : ∀ f t h' tk', P f → Fr h₀ L h' m → News h₀ L h' led → Q (.int f t) { s with heap := h', toks := tk' })
    (hd : dp + need < recursionLimit) (hu : un + 8 * need < cLine) :
    wpAny (model PR w) (ktrTop dp un gd cn cs L a ccd cl outer) (call (.ref fa) vs) Q E s := Tell.use N B F X T hk C hd hu fun r led' h' tk' F' N' P => by
  obtain ⟨rfl, f, t, rfl, hf⟩ := P
  exact ret f t h' tk' hf F' N'
theorem Tell.goO {o : Option Nat} (N : News h₀ L s.heap led) (B : Below A₀ base outer h₀) (F : Fr h₀ L s.heap m) (X : (Mine.hd.heap_39 w.params).In h₀) (T : TopP mean mg mb h₀) (hk : cs.kind = .function)
    (C : Tell w mean mg mb fa need led vs (fun led' v => led' = led ∧ match o with | some i => ∃ t, v = .int (i : Nat) t | none => v = .none))
    (one : ∀ i t h' tk', o = some i → Fr h₀ L h' m → News h₀ L h' led → Q (.int (i : Nat) t) { s with heap := h', toks := tk' }) (non : ∀ h' tk', o = none → Fr h₀ L h' m → News h₀ L h' led → Q .none { s with heap := h', toks := tk' })
    (hd : dp + need < recursionLimit) (hu : un + 8 * need < cLine) :
    wpAny (model PR w) (ktrTop dp un gd cn cs L a ccd cl outer) (call (.ref fa) vs) Q E s := Tell.use N B F X T hk C hd hu fun r led' h' tk' F' N' P => by
  obtain ⟨rfl, P⟩ := P
  cases ho : o with
  | none => rw [ho] at P; subst P; exact non h' tk' ho F' N'
  | some i => rw [ho] at P; obtain ⟨t, rfl⟩ := P; exact one i t h' tk' ho F' N'
end
section
variable {M : Model} {A : Around} {E : Value → Shared → Prop} {s : Shared} {Q : Value → Shared → Prop} {QF : Flow → Shared → Prop} {env : Env}
theorem stop_lc {e g sc pos} (h : False) : wpAny M A (eval (Expr.ListComp e g sc pos) env) Q E s := h.elim
theorem stop_alc {ts e g sc pos p} (h : False) : wpAny M A (exec (Stmt.Assign ts (Expr.ListComp e g sc pos) p) env) QF E s := h.elim
theorem stop_la {vs} (h : False) : wpAny M A (call (Value.builtin "list.append") vs) Q E s := h.elim
theorem stop_zip {vs} (h : False) : wpAny M A (call (Value.type "zip") vs) Q E s := h.elim
theorem stop_ref {f vs} (h : False) : wpAny M A (call (Value.ref f) vs) Q E s := h.elim
theorem for_shape {x p it b pos env} (h : wpAny M A (exec (Stmt.For (Expr.Name x p) it b [] pos) env) QF E s) : wpAny M A (exec (Stmt.For (Expr.Name x p) it b [] pos) env) QF E s := h
theorem fort_shape {es k p it b pos env} (h : wpAny M A (exec (Stmt.For (Expr.Tuple es k p) it b [] pos) env) QF E s) : wpAny M A (exec (Stmt.For (Expr.Tuple es k p) it b [] pos) env) QF E s := h
theorem item_shape {e e' l k u} (h : wpAny M A (subscriptTail e e' (Value.ref l) (Value.int k u)) Q E s) : wpAny M A (subscriptTail e e' (Value.ref l) (Value.int k u)) Q E s := h
theorem hide {G : Prop} (h : ∀ H : Prop, (G → H) → H) : G := h G id
end
theorem filled : PySem.Challenge.rw_xm0049_02 = PySem.Challenge.rw_xm0049_02 ∧ Mine.hd.heap_39 = Mine.hd.heap_39 := by
  w_top off
  k_fill
  exact ⟨rfl, rfl⟩
local macro_rules | `(tactic| k_mem) => `(tactic| first | exact List.mem_cons_self | (refine List.mem_cons_of_mem _ ?_; k_mem))
theorem t_gcd (w : World) (mean : ExcName → Option Value) (mg mb : Str → Option Value) (led : List (Addr × Obj)) (a b : Int) (ta tb : Tok) :
    Tell w mean mg mb 72 1 led [.int a ta, .int b tb] (fun led' r => led' = led ∧ ∃ t, r = .int (Int.gcd a b) t) := by
  intro dp un gd cn cs a₁ ccd cl outer A₀ base h₀ L m s Q E B F X N T hk hd hu hret
  refine wpAny_call ?_
  k_dflt (refine' code_def (binds := [(Str.ofString "one", .int a ta), (Str.ofString "other", .int b tb)]) ?k1 ?k2 ?k3 ?k4 ?k5 ?kA ?kF ?kK ?k6 ?k7 ?k8 ?k9 ?kB ?_ ?c2 ?c3 ?c4 ?c5; (case kA => exact rfl); (case kF => exact rfl); (case kK => first | exact rfl | assumption); (case k1 => k_asm); (case k2 => k_asm); (case k3 => k_asm); (case k4 => k_asm); (case k5 => k_asm); (case k6 => k_is); (case k7 => k_is); (case k8 => ktr_room); (case k9 => exact BindsTo.of_eq rfl); (case c5 => decide); (case kB => exact locs rfl); (case c2 => exact rfl); (case c3 => exact rfl); (case c4 => exact rfl); k_whole; intro g' L' h' FG' F' N' B' X' T'; (try dsimp only); (try k_fold))
  k_with "exec While Compare cons nil" => k_while (fun _ x y => 0 ≤ x ∧ 0 ≤ y ∧ Int.gcd x y = Int.gcd a b) (fun _ _ y => y.toNat) "one" "other"
  k_with "state" => first | exact gcd_start a b | exact gcd_turn (by assumption) (by assumption) (by assumption)
  k_with "measure" => exact gcd_less (by assumption)
  k_steps
  refine hret _ _ _ _ (by k_asm) (News.drop (by k_asm) (by kcj_all)) ⟨rfl, ktn_int (gcd_end (by assumption) (by assumption) (by assumption) (by assumption))⟩
theorem t_fraction (w : World) (mean : ExcName → Option Value) (mg mb : Str → Option Value) (led : List (Addr × Obj)) (a b : Int) (ta tb : Tok) (hb : b ≠ 0) (hbits : Builtin.Int.intBits b ≤ 8000) :
    Tell w mean mg mb 79 2 led [.int a ta, .int b tb] (PostQ led (Rat.divInt a b)) := by
  intro dp un gd cn cs a₁ ccd cl outer A₀ base h₀ L m s Q E B F X N T hk hd hu hret
  have hne := part_ne (a := a) hb
  have hl1 := log_gcd (a := a) hb hbits
  have hl2 := log_gcd_neg (a := a) hb hbits
  refine wpAny_call ?_
  k_dflt (refine' code_def (binds := [(Str.ofString "above", .int a ta), (Str.ofString "below", .int b tb)]) ?k1 ?k2 ?k3 ?k4 ?k5 ?kA ?kF ?kK ?k6 ?k7 ?k8 ?k9 ?kB ?_ ?c2 ?c3 ?c4 ?c5; (case kA => exact rfl); (case kF => exact rfl); (case kK => first | exact rfl | assumption); (case k1 => k_asm); (case k2 => k_asm); (case k3 => k_asm); (case k4 => k_asm); (case k5 => k_asm); (case k6 => k_is); (case k7 => k_is); (case k8 => ktr_room); (case k9 => exact BindsTo.of_eq rfl); (case c5 => decide); (case kB => exact locs rfl); (case c2 => exact rfl); (case c3 => exact rfl); (case c4 => exact rfl); k_whole; intro g' L' h' FG' F' N' B' X' T'; (try dsimp only); (try k_fold))
  repeat' ((fail_if_success (first | (with_reducible refine stop_ref ?_) | (with_reducible refine stop_lc ?_) | (with_reducible refine stop_alc ?_) | (with_reducible refine stop_zip ?_))); first | (k_unfold; (try dsimp only)) | ((with_reducible refine floordiv_int ?kbe ?_ (Or.inl (PyProof.noPylong_of_log2 ?kbp))); (case kbe => first | assumption | lia); (case kbp => assumption)) | walk1 | (dsimp only; walk1) | (leave1; (try dsimp only)) | fail "no step")
  refine Tell.goI (N := by k_asm) (B := by k_asm) (F := by k_asm) (X := by k_asm) (T := by k_asm) (hk := by first | exact rfl | assumption) (C := t_gcd _ _ _ _ _ _ _ _ _) (ret := ?_) (hd := by first | decide | exact room1 (by assumption) (by decide) | ktr_room) (hu := by first | decide | exact units1 (by assumption) (by decide) | ktr_units)
  intro t9 h9 tk9 F9 N9
  (try dsimp only)
  (try k_fold)
  repeat' ((fail_if_success (first | (with_reducible refine stop_ref ?_) | (with_reducible refine stop_lc ?_) | (with_reducible refine stop_alc ?_) | (with_reducible refine stop_zip ?_))); first | (k_unfold; (try dsimp only)) | ((with_reducible refine floordiv_int ?kbe ?_ (Or.inl (PyProof.noPylong_of_log2 ?kbp))); (case kbe => first | assumption | lia); (case kbp => assumption)) | walk1 | (dsimp only; walk1) | (leave1; (try dsimp only)) | fail "no step")
  · exact hret _ _ _ _ (by k_asm) (by k_asm) (PostQ.mk (by ktn_lt) (fr_num_pos (by assumption)) (fr_den_pos (by assumption)))
  · exact hret _ _ _ _ (by k_asm) (by k_asm) (PostQ.mk (by ktn_lt) (fr_num_neg (by lia)) (fr_den_neg (by lia)))
theorem t_times (w : World) (mean : ExcName → Option Value) (mg mb : Str → Option Value) (led : List (Addr × Obj)) (p q : Rat) (x y : Addr) (t1 t2 t3 t4 : Tok) (j k : Nat)
    (mx : (x, ({ cls := .type "tuple", data := .seq #[.int p.num t1, .int (p.den : Nat) t2] } : Obj)) ∈ led) (my : (y, ({ cls := .type "tuple", data := .seq #[.int q.num t3, .int (q.den : Nat) t4] } : Obj)) ∈ led) (hp : Qb j p) (hq : Qb k q) (hjk : j + k ≤ 8000) :
    Tell w mean mg mb 93 3 led [.ref x, .ref y] (PostQ led (p * q)) := by
  intro dp un gd cn cs a₁ ccd cl outer A₀ base h₀ L m s Q E B F X N T hk hd hu hret
  have hm1 := mulOk_of hp.1 hq.1 (by lia)
  have hm2 := mulOk_of hp.2 hq.2 (by lia)
  have hne : (p.den : Int) * q.den ≠ 0 := Int.mul_ne_zero (den_ne p) (den_ne q)
  have hbt := Nat.le_trans (intBits_mul_le hp.2 hq.2) hjk
  refine wpAny_call ?_
  k_dflt (refine' code_def (binds := [(Str.ofString "one", .ref x), (Str.ofString "other", .ref y)]) ?k1 ?k2 ?k3 ?k4 ?k5 ?kA ?kF ?kK ?k6 ?k7 ?k8 ?k9 ?kB ?_ ?c2 ?c3 ?c4 ?c5; (case kA => exact rfl); (case kF => exact rfl); (case kK => first | exact rfl | assumption); (case k1 => k_asm); (case k2 => k_asm); (case k3 => k_asm); (case k4 => k_asm); (case k5 => k_asm); (case k6 => k_is); (case k7 => k_is); (case k8 => ktr_room); (case k9 => exact BindsTo.of_eq rfl); (case c5 => decide); (case kB => exact locs rfl); (case c2 => exact rfl); (case c3 => exact rfl); (case c4 => exact rfl); k_whole; intro g' L' h' FG' F' N' B' X' T'; (try dsimp only); (try k_fold))
  repeat' ((fail_if_success (first | (with_reducible refine stop_ref ?_) | (with_reducible refine stop_lc ?_) | (with_reducible refine stop_alc ?_) | (with_reducible refine stop_zip ?_))); first | (k_unfold; (try dsimp only)) | ((with_reducible refine floordiv_int ?kbe ?_ (Or.inl (PyProof.noPylong_of_log2 ?kbp))); (case kbe => first | assumption | lia); (case kbp => assumption)) | walk1 | (dsimp only; walk1) | (leave1; (try dsimp only)) | fail "no step")
  refine Tell.goQ (N := by k_asm) (B := by k_asm) (F := by k_asm) (X := by k_asm) (T := by k_asm) (hk := by first | exact rfl | assumption) (C := t_fraction _ _ _ _ _ _ _ _ _ (by assumption) (by assumption)) (ret := ?_) (hd := by first | decide | exact room1 (by assumption) (by decide) | ktr_room) (hu := by first | decide | exact units1 (by assumption) (by decide) | ktr_units)
  intro x9 t9 u9 h9 tk9 l9 F9 N9
  (try dsimp only)
  (try k_fold)
  repeat' ((fail_if_success (first | (with_reducible refine stop_ref ?_) | (with_reducible refine stop_lc ?_) | (with_reducible refine stop_alc ?_) | (with_reducible refine stop_zip ?_))); first | (k_unfold; (try dsimp only)) | ((with_reducible refine floordiv_int ?kbe ?_ (Or.inl (PyProof.noPylong_of_log2 ?kbp))); (case kbe => first | assumption | lia); (case kbp => assumption)) | walk1 | (dsimp only; walk1) | (leave1; (try dsimp only)) | fail "no step")
  exact hret _ _ _ _ (by k_asm) (by k_asm) (PostQ.mk (by ktn_lt) (by rw [times_is]) (by rw [times_is]))
theorem t_less (w : World) (mean : ExcName → Option Value) (mg mb : Str → Option Value) (led : List (Addr × Obj)) (p q : Rat) (x y : Addr) (t1 t2 t3 t4 : Tok) (j k : Nat)
    (mx : (x, ({ cls := .type "tuple", data := .seq #[.int p.num t1, .int (p.den : Nat) t2] } : Obj)) ∈ led) (my : (y, ({ cls := .type "tuple", data := .seq #[.int q.num t3, .int (q.den : Nat) t4] } : Obj)) ∈ led) (hp : Qb j p) (hq : Qb k q) (hjk : j + k ≤ 8000) :
    Tell w mean mg mb 100 3 led [.ref x, .ref y] (PostQ led (p - q)) := by
  intro dp un gd cn cs a₁ ccd cl outer A₀ base h₀ L m s Q E B F X N T hk hd hu hret
  have hm1 := mulOk_of hp.1 hq.2 (by lia)
  have hm2 := mulOk_of hp.2 hq.2 (by lia)
  have hm3 := mulOk_of hq.1 hp.2 (by lia)
  have hne : (p.den : Int) * q.den ≠ 0 := Int.mul_ne_zero (den_ne p) (den_ne q)
  have hbt := Nat.le_trans (intBits_mul_le hp.2 hq.2) hjk
  refine wpAny_call ?_
  k_dflt (refine' code_def (binds := [(Str.ofString "one", .ref x), (Str.ofString "other", .ref y)]) ?k1 ?k2 ?k3 ?k4 ?k5 ?kA ?kF ?kK ?k6 ?k7 ?k8 ?k9 ?kB ?_ ?c2 ?c3 ?c4 ?c5; (case kA => exact rfl); (case kF => exact rfl); (case kK => first | exact rfl | assumption); (case k1 => k_asm); (case k2 => k_asm); (case k3 => k_asm); (case k4 => k_asm); (case k5 => k_asm); (case k6 => k_is); (case k7 => k_is); (case k8 => ktr_room); (case k9 => exact BindsTo.of_eq rfl); (case c5 => decide); (case kB => exact locs rfl); (case c2 => exact rfl); (case c3 => exact rfl); (case c4 => exact rfl); k_whole; intro g' L' h' FG' F' N' B' X' T'; (try dsimp only); (try k_fold))
  repeat' ((fail_if_success (first | (with_reducible refine stop_ref ?_) | (with_reducible refine stop_lc ?_) | (with_reducible refine stop_alc ?_) | (with_reducible refine stop_zip ?_))); first | (k_unfold; (try dsimp only)) | ((with_reducible refine floordiv_int ?kbe ?_ (Or.inl (PyProof.noPylong_of_log2 ?kbp))); (case kbe => first | assumption | lia); (case kbp => assumption)) | walk1 | (dsimp only; walk1) | (leave1; (try dsimp only)) | fail "no step")
  refine Tell.goQ (N := by k_asm) (B := by k_asm) (F := by k_asm) (X := by k_asm) (T := by k_asm) (hk := by first | exact rfl | assumption) (C := t_fraction _ _ _ _ _ _ _ _ _ (by assumption) (by assumption)) (ret := ?_) (hd := by first | decide | exact room1 (by assumption) (by decide) | ktr_room) (hu := by first | decide | exact units1 (by assumption) (by decide) | ktr_units)
  intro x9 t9 u9 h9 tk9 l9 F9 N9
  (try dsimp only)
  (try k_fold)
  repeat' ((fail_if_success (first | (with_reducible refine stop_ref ?_) | (with_reducible refine stop_lc ?_) | (with_reducible refine stop_alc ?_) | (with_reducible refine stop_zip ?_))); first | (k_unfold; (try dsimp only)) | ((with_reducible refine floordiv_int ?kbe ?_ (Or.inl (PyProof.noPylong_of_log2 ?kbp))); (case kbe => first | assumption | lia); (case kbp => assumption)) | walk1 | (dsimp only; walk1) | (leave1; (try dsimp only)) | fail "no step")
  exact hret _ _ _ _ (by k_asm) (by k_asm) (PostQ.mk (by ktn_lt) (by rw [less_is]) (by rw [less_is]))
theorem t_by (w : World) (mean : ExcName → Option Value) (mg mb : Str → Option Value) (led : List (Addr × Obj)) (p q : Rat) (x y : Addr) (t1 t2 t3 t4 : Tok) (j k : Nat)
    (mx : (x, ({ cls := .type "tuple", data := .seq #[.int p.num t1, .int (p.den : Nat) t2] } : Obj)) ∈ led) (my : (y, ({ cls := .type "tuple", data := .seq #[.int q.num t3, .int (q.den : Nat) t4] } : Obj)) ∈ led) (hp : Qb j p) (hq : Qb k q) (hjk : j + k ≤ 8000) (hz : q ≠ 0) :
    Tell w mean mg mb 107 3 led [.ref x, .ref y] (PostQ led (p / q)) := by
  intro dp un gd cn cs a₁ ccd cl outer A₀ base h₀ L m s Q E B F X N T hk hd hu hret
  have hm1 := mulOk_of hp.1 hq.2 (by lia)
  have hm2 := mulOk_of hp.2 hq.1 (by lia)
  have hne : (p.den : Int) * q.num ≠ 0 := Int.mul_ne_zero (den_ne p) (num_ne hz)
  have hbt := Nat.le_trans (intBits_mul_le hp.2 hq.1) hjk
  refine wpAny_call ?_
  k_dflt (refine' code_def (binds := [(Str.ofString "one", .ref x), (Str.ofString "other", .ref y)]) ?k1 ?k2 ?k3 ?k4 ?k5 ?kA ?kF ?kK ?k6 ?k7 ?k8 ?k9 ?kB ?_ ?c2 ?c3 ?c4 ?c5; (case kA => exact rfl); (case kF => exact rfl); (case kK => first | exact rfl | assumption); (case k1 => k_asm); (case k2 => k_asm); (case k3 => k_asm); (case k4 => k_asm); (case k5 => k_asm); (case k6 => k_is); (case k7 => k_is); (case k8 => ktr_room); (case k9 => exact BindsTo.of_eq rfl); (case c5 => decide); (case kB => exact locs rfl); (case c2 => exact rfl); (case c3 => exact rfl); (case c4 => exact rfl); k_whole; intro g' L' h' FG' F' N' B' X' T'; (try dsimp only); (try k_fold))
  repeat' ((fail_if_success (first | (with_reducible refine stop_ref ?_) | (with_reducible refine stop_lc ?_) | (with_reducible refine stop_alc ?_) | (with_reducible refine stop_zip ?_))); first | (k_unfold; (try dsimp only)) | ((with_reducible refine floordiv_int ?kbe ?_ (Or.inl (PyProof.noPylong_of_log2 ?kbp))); (case kbe => first | assumption | lia); (case kbp => assumption)) | walk1 | (dsimp only; walk1) | (leave1; (try dsimp only)) | fail "no step")
  refine Tell.goQ (N := by k_asm) (B := by k_asm) (F := by k_asm) (X := by k_asm) (T := by k_asm) (hk := by first | exact rfl | assumption) (C := t_fraction _ _ _ _ _ _ _ _ _ (by assumption) (by assumption)) (ret := ?_) (hd := by first | decide | exact room1 (by assumption) (by decide) | ktr_room) (hu := by first | decide | exact units1 (by assumption) (by decide) | ktr_units)
  intro x9 t9 u9 h9 tk9 l9 F9 N9
  (try dsimp only)
  (try k_fold)
  repeat' ((fail_if_success (first | (with_reducible refine stop_ref ?_) | (with_reducible refine stop_lc ?_) | (with_reducible refine stop_alc ?_) | (with_reducible refine stop_zip ?_))); first | (k_unfold; (try dsimp only)) | ((with_reducible refine floordiv_int ?kbe ?_ (Or.inl (PyProof.noPylong_of_log2 ?kbp))); (case kbe => first | assumption | lia); (case kbp => assumption)) | walk1 | (dsimp only; walk1) | (leave1; (try dsimp only)) | fail "no step")
  exact hret _ _ _ _ (by k_asm) (by k_asm) (PostQ.mk (by ktn_lt) (by rw [by_is]) (by rw [by_is]))
section
variable {w : World} {mean : ExcName → Option Value} {mg mb : Str → Option Value} {fa : Addr} {need : Nat} {led : List (Addr × Obj)} {vs : List Value} {dp un : Nat} {gd : Option (List Code)} {cn : Str} {cs : Scope} {a : Addr} {ccd : Value} {cl : List (Str × Addr)} {outer : List Env} {A₀ : Around} {base h₀ : Heap} {L : Addr} {m : Str → Option Value} {s : Shared} {Q E : Value → Shared → Prop}
theorem Tell.goR {qs : List Rat} (N : News h₀ L s.heap led) (B : Below A₀ base outer h₀) (F : Fr h₀ L s.heap m) (X : (Mine.hd.heap_39 w.params).In h₀) (T : TopP mean mg mb h₀) (hk : cs.kind = .function) (C : Tell w mean mg mb fa need led vs (fun led' v => ∃ tl, led' = tl ++ led ∧ (∀ p ∈ tl, ∀ q ∈ led, q.1 < p.1) ∧ RowIn tl v qs))
    (ret : ∀ tl r k ys h' tk', (∀ p ∈ tl, ∀ q ∈ led, q.1 < p.1) → (r, ({ cls := .type "list", data := .seq (List.toArray ys) k } : Obj)) ∈ tl → Cells tl ys qs → Fr h₀ L h' m → News h₀ L h' (tl ++ led) → Q (.ref r) { s with heap := h', toks := tk' }) (hd : dp + need < recursionLimit) (hu : un + 8 * need < cLine) : wpAny (model PR w) (ktrTop dp un gd cn cs L a ccd cl outer) (call (.ref fa) vs) Q E s := Tell.use N B F X T hk C hd hu fun r led' h' tk' F' N' P9 => by
  obtain ⟨tl, rfl, ht, r, k, ys, rfl, hm, hc⟩ := P9
  exact ret tl r k ys h' tk' ht hm hc F' N'
end
theorem t_cleared (w : World) (mean : ExcName → Option Value) (mg mb : Str → Option Value) (led : List (Addr × Obj)) (ps qs : List Rat) (f : Rat) (r b y : Addr) (kr kb : Nat) (xs ys : List Value) (tf uf : Tok) (k : Nat)
    (mr : (r, ({ cls := .type "list", data := .seq (List.toArray xs) kr } : Obj)) ∈ led) (mb' : (b, ({ cls := .type "list", data := .seq (List.toArray ys) kb } : Obj)) ∈ led) (mf : (y, ({ cls := .type "tuple", data := .seq #[.int f.num tf, .int (f.den : Nat) uf] } : Obj)) ∈ led) (cx : Cells led xs ps) (cy : Cells led ys qs) (hp : Qbs k ps) (hq : Qbs k qs) (hf : Qb k f) (hk3 : 3 * k ≤ 7000) (hsz : xs.length ≤ sizeLine) :
    Tell w mean mg mb 126 5 led [.ref r, .ref b, .ref y] (fun led' v => ∃ tl, led' = tl ++ led ∧ (∀ p ∈ tl, ∀ q ∈ led, q.1 < p.1) ∧ RowIn tl v (List.zipWith (fun p q => p - f * q) ps qs)) := by
  intro dp un gd cn cs a₁ ccd cl outer A₀ base h₀ L m s Q E B F X N T hk hd hu hret
  refine wpAny_call ?_
  k_dflt (refine' code_defC (binds := [(Str.ofString "row", .ref r), (Str.ofString "by", .ref b), (Str.ofString "factor", .ref y)]) ?k1 ?k2 ?k3 ?k4 ?k5 ?kA ?kF ?kK ?k6 ?k7 ?k8 ?k9 ?kB ?kD ?_ ?c2 ?c3 ?c4; (case kA => exact rfl); (case kF => exact rfl); (case kK => first | exact rfl | assumption); (case k1 => k_asm); (case k2 => k_asm); (case k3 => k_asm); (case k4 => k_asm); (case k5 => k_asm); (case k6 => k_is); (case k7 => k_is); (case k8 => ktr_room); (case k9 => exact BindsTo.of_eq rfl); (case kB => exact rfl); (case kD => decide +kernel); (case c2 => exact rfl); (case c3 => exact rfl); (case c4 => exact rfl); k_whole; intro g' L' h' tk' cells' FG' F' N' Y' B' X' T' l1; (try k_lt l1); k_cells Y'; (try simp only [List.cons_append, List.nil_append] at N'); (try dsimp only); (try k_fold))
  rename_i oc dc
  repeat' ((fail_if_success (first | (with_reducible refine stop_ref ?_) | (with_reducible refine stop_lc ?_) | (with_reducible refine stop_alc ?_) | (with_reducible refine stop_zip ?_) | (with_reducible show IterE1 _ _ _ _ _ _ _ _ _ _ _ _ _ _ _) | (with_reducible show IterA1 _ _ _ _ _ _ _ _ _ _ _ _ _ _ _ _) | (with_reducible show CompOut _ _ _ _ _ _ _ _ _) | (with_reducible show IterF _ _ _ _ _ _ _ _ _ _ _) | (with_reducible show ForOut _ _ _ _ _ _ _ _ _))); first | (k_unfold; (try dsimp only)) | ((with_reducible refine item_shape ?_); k_dflt (refine item_at (hs := by with_unfolding_all rfl) (by k_asm) (by k_mem) (by assumption) (by first | (with_reducible exact Int.natCast_nonneg _) | (with_reducible assumption) | decide | lia) (by first | (with_reducible assumption) | decide | lia) ?_)) | ((with_reducible refine for_shape ?_); k_dflt (refine ForF (hs := by intro _; rfl) (by k_asm) (by rfl) (by rfl) (by with_unfolding_all passes_own) ?_)) | ((with_reducible show wpAny _ _ (call (Value.builtin "len") [Value.ref _]) _ _ _); k_dflt (refine kst_len (by k_asm) (by k_mem) (by first | assumption | rfl) (by lia) ?_)) | ((with_reducible refine floordiv_int ?kbe ?_ (Or.inl (PyProof.noPylong_of_log2 ?kbp))); (case kbe => first | assumption | lia); (case kbp => assumption)) | walk1 | (dsimp only; walk1) | (leave1; (try dsimp only)) | fail "no step")
  k_dflt (refine ListComp2E (hs := by intro _; rfl) (by k_asm) (by with_unfolding_all rfl) (by decide) (by rfl) (by decide) (by rfl) (by rfl) (by decide) ?_)
  repeat' ((fail_if_success (first | (with_reducible refine stop_ref ?_) | (with_reducible refine stop_lc ?_) | (with_reducible refine stop_alc ?_) | (with_reducible refine stop_zip ?_) | (with_reducible show IterE1 _ _ _ _ _ _ _ _ _ _ _ _ _ _ _) | (with_reducible show IterA1 _ _ _ _ _ _ _ _ _ _ _ _ _ _ _ _) | (with_reducible show CompOut _ _ _ _ _ _ _ _ _) | (with_reducible show IterF _ _ _ _ _ _ _ _ _ _ _) | (with_reducible show ForOut _ _ _ _ _ _ _ _ _))); first | (k_unfold; (try dsimp only)) | ((with_reducible refine item_shape ?_); k_dflt (refine item_at (hs := by with_unfolding_all rfl) (by k_asm) (by k_mem) (by assumption) (by first | (with_reducible exact Int.natCast_nonneg _) | (with_reducible assumption) | decide | lia) (by first | (with_reducible assumption) | decide | lia) ?_)) | ((with_reducible refine for_shape ?_); k_dflt (refine ForF (hs := by intro _; rfl) (by k_asm) (by rfl) (by rfl) (by with_unfolding_all passes_own) ?_)) | ((with_reducible show wpAny _ _ (call (Value.builtin "len") [Value.ref _]) _ _ _); k_dflt (refine kst_len (by k_asm) (by k_mem) (by first | assumption | rfl) (by lia) ?_)) | ((with_reducible refine floordiv_int ?kbe ?_ (Or.inl (PyProof.noPylong_of_log2 ?kbp))); (case kbe => first | assumption | lia); (case kbp => assumption)) | walk1 | (dsimp only; walk1) | (leave1; (try dsimp only)) | fail "no step")
  refine IterE2.zip rfl F' N' (List.mem_cons_of_mem _ mr) (List.mem_cons_of_mem _ mb') (by simpa using hsz) (fun i zs led₁ => ∃ tl, led₁ = tl ++ ((L' + 1, oc) :: led) ∧ (∀ p ∈ tl, ∀ q ∈ led, q.1 < p.1) ∧ Cells tl zs (List.zipWith (fun p q => p - f * q) (ps.take i) (qs.take i))) ⟨[], rfl, (fun _ h => nomatch h), by simpa using Cells.nil⟩ ?_ ?_
  · intro i v v₂ zs led₁ own C oC m₂ h tk E' hi hv hv₂ hJ hC hns hx1 hx2 F1 N1
    refine hide fun H9 hH9 => ?_
    obtain ⟨tl, rfl, ht, hJ⟩ := hJ
    obtain ⟨a, p, t1, u1, rfl, hma, hpi⟩ := cx.get (by simpa using hv)
    obtain ⟨c, q, t2, u2, rfl, hmc, hqi⟩ := cy.get (by simpa using hv₂)
    refine hH9 ?_
    clear hH9 H9
    have hp' := hp p (List.mem_of_getElem? hpi)
    have hq' := hq q (List.mem_of_getElem? hqi)
    have hg := Qb.mul hf hq'
    repeat' ((fail_if_success (first | (with_reducible refine stop_ref ?_) | (with_reducible refine stop_lc ?_) | (with_reducible refine stop_alc ?_) | (with_reducible refine stop_zip ?_) | (with_reducible show IterE1 _ _ _ _ _ _ _ _ _ _ _ _ _ _ _) | (with_reducible show IterA1 _ _ _ _ _ _ _ _ _ _ _ _ _ _ _ _) | (with_reducible show CompOut _ _ _ _ _ _ _ _ _) | (with_reducible show IterF _ _ _ _ _ _ _ _ _ _ _) | (with_reducible show ForOut _ _ _ _ _ _ _ _ _))); first | (k_unfold; (try dsimp only)) | ((with_reducible refine item_shape ?_); k_dflt (refine item_at (hs := by with_unfolding_all rfl) (by k_asm) (by k_mem) (by assumption) (by first | (with_reducible exact Int.natCast_nonneg _) | (with_reducible assumption) | decide | lia) (by first | (with_reducible assumption) | decide | lia) ?_)) | ((with_reducible refine for_shape ?_); k_dflt (refine ForF (hs := by intro _; rfl) (by k_asm) (by rfl) (by rfl) (by with_unfolding_all passes_own) ?_)) | ((with_reducible show wpAny _ _ (call (Value.builtin "len") [Value.ref _]) _ _ _); k_dflt (refine kst_len (by k_asm) (by k_mem) (by first | assumption | rfl) (by lia) ?_)) | ((with_reducible refine floordiv_int ?kbe ?_ (Or.inl (PyProof.noPylong_of_log2 ?kbp))); (case kbe => first | assumption | lia); (case kbp => assumption)) | walk1 | (dsimp only; walk1) | (leave1; (try dsimp only)) | fail "no step")
    refine Tell.goQ (N := by k_asm) (B := by k_asm) (F := by k_asm) (X := by k_asm) (T := by k_asm) (hk := by first | exact rfl | assumption) (C := t_times _ _ _ _ _ _ _ _ _ _ _ _ _ _ _ (by k_mem) (by k_mem) (by assumption) (by assumption) (by lia)) (ret := ?_) (hd := by first | decide | exact room1 (by assumption) (by decide) | ktr_room) (hu := by first | decide | exact units1 (by assumption) (by decide) | ktr_units)
    intro x8 t8 u8 h8 tk8 l8 F8 N8
    (try dsimp only)
    (try k_fold)
    repeat' ((fail_if_success (first | (with_reducible refine stop_ref ?_) | (with_reducible refine stop_lc ?_) | (with_reducible refine stop_alc ?_) | (with_reducible refine stop_zip ?_) | (with_reducible show IterE1 _ _ _ _ _ _ _ _ _ _ _ _ _ _ _) | (with_reducible show IterA1 _ _ _ _ _ _ _ _ _ _ _ _ _ _ _ _) | (with_reducible show CompOut _ _ _ _ _ _ _ _ _) | (with_reducible show IterF _ _ _ _ _ _ _ _ _ _ _) | (with_reducible show ForOut _ _ _ _ _ _ _ _ _))); first | (k_unfold; (try dsimp only)) | ((with_reducible refine item_shape ?_); k_dflt (refine item_at (hs := by with_unfolding_all rfl) (by k_asm) (by k_mem) (by assumption) (by first | (with_reducible exact Int.natCast_nonneg _) | (with_reducible assumption) | decide | lia) (by first | (with_reducible assumption) | decide | lia) ?_)) | ((with_reducible refine for_shape ?_); k_dflt (refine ForF (hs := by intro _; rfl) (by k_asm) (by rfl) (by rfl) (by with_unfolding_all passes_own) ?_)) | ((with_reducible show wpAny _ _ (call (Value.builtin "len") [Value.ref _]) _ _ _); k_dflt (refine kst_len (by k_asm) (by k_mem) (by first | assumption | rfl) (by lia) ?_)) | ((with_reducible refine floordiv_int ?kbe ?_ (Or.inl (PyProof.noPylong_of_log2 ?kbp))); (case kbe => first | assumption | lia); (case kbp => assumption)) | walk1 | (dsimp only; walk1) | (leave1; (try dsimp only)) | fail "no step")
    refine Tell.goQ (N := by k_asm) (B := by k_asm) (F := by k_asm) (X := by k_asm) (T := by k_asm) (hk := by first | exact rfl | assumption) (C := t_less _ _ _ _ _ _ _ _ _ _ _ _ _ _ _ (by k_mem) (by k_mem) (by assumption) (by assumption) (by lia)) (ret := ?_) (hd := by first | decide | exact room1 (by assumption) (by decide) | ktr_room) (hu := by first | decide | exact units1 (by assumption) (by decide) | ktr_units)
    intro x9 t9 u9 h9 tk9 l9 F9 N9
    (try dsimp only)
    (try k_fold)
    repeat' ((fail_if_success (first | (with_reducible refine stop_ref ?_) | (with_reducible refine stop_lc ?_) | (with_reducible refine stop_alc ?_) | (with_reducible refine stop_zip ?_) | (with_reducible show IterE1 _ _ _ _ _ _ _ _ _ _ _ _ _ _ _) | (with_reducible show IterA1 _ _ _ _ _ _ _ _ _ _ _ _ _ _ _ _) | (with_reducible show CompOut _ _ _ _ _ _ _ _ _) | (with_reducible show IterF _ _ _ _ _ _ _ _ _ _ _) | (with_reducible show ForOut _ _ _ _ _ _ _ _ _))); first | (k_unfold; (try dsimp only)) | ((with_reducible refine item_shape ?_); k_dflt (refine item_at (hs := by with_unfolding_all rfl) (by k_asm) (by k_mem) (by assumption) (by first | (with_reducible exact Int.natCast_nonneg _) | (with_reducible assumption) | decide | lia) (by first | (with_reducible assumption) | decide | lia) ?_)) | ((with_reducible refine for_shape ?_); k_dflt (refine ForF (hs := by intro _; rfl) (by k_asm) (by rfl) (by rfl) (by with_unfolding_all passes_own) ?_)) | ((with_reducible show wpAny _ _ (call (Value.builtin "len") [Value.ref _]) _ _ _); k_dflt (refine kst_len (by k_asm) (by k_mem) (by first | assumption | rfl) (by lia) ?_)) | ((with_reducible refine floordiv_int ?kbe ?_ (Or.inl (PyProof.noPylong_of_log2 ?kbp))); (case kbe => first | assumption | lia); (case kbp => assumption)) | walk1 | (dsimp only; walk1) | (leave1; (try dsimp only)) | fail "no step")
    refine compOut_one (by k_asm) (by k_asm) (fun p hp => List.mem_cons_of_mem _ hp) (by assumption) ⟨_ :: tl, rfl, fun p hp q hq => ?_, ?_⟩
    · rcases List.mem_cons.mp hp with rfl | hp
      · exact lt_of_all (by assumption) q (List.mem_cons_of_mem _ (List.mem_append_right _ (List.mem_append_right _ (List.mem_cons_of_mem _ hq))))
      · exact ht p hp q hq
    · rw [take_zip_succ hpi hqi]
      exact (hJ.mono fun p hp => List.mem_cons_of_mem _ hp).snoc List.mem_cons_self
  · intro D h tk zs led₁ F2 N2 hD hlt hlen hJ
    refine hide fun H9 hH9 => ?_
    obtain ⟨tl, rfl, ht, hJ2⟩ := hJ
    refine hH9 ?_
    clear hH9 H9
    repeat' ((fail_if_success (first | (with_reducible refine stop_ref ?_) | (with_reducible refine stop_lc ?_) | (with_reducible refine stop_alc ?_) | (with_reducible refine stop_zip ?_) | (with_reducible show IterE1 _ _ _ _ _ _ _ _ _ _ _ _ _ _ _) | (with_reducible show IterA1 _ _ _ _ _ _ _ _ _ _ _ _ _ _ _ _) | (with_reducible show CompOut _ _ _ _ _ _ _ _ _) | (with_reducible show IterF _ _ _ _ _ _ _ _ _ _ _) | (with_reducible show ForOut _ _ _ _ _ _ _ _ _))); first | (k_unfold; (try dsimp only)) | ((with_reducible refine item_shape ?_); k_dflt (refine item_at (hs := by with_unfolding_all rfl) (by k_asm) (by k_mem) (by assumption) (by first | (with_reducible exact Int.natCast_nonneg _) | (with_reducible assumption) | decide | lia) (by first | (with_reducible assumption) | decide | lia) ?_)) | ((with_reducible refine for_shape ?_); k_dflt (refine ForF (hs := by intro _; rfl) (by k_asm) (by rfl) (by rfl) (by with_unfolding_all passes_own) ?_)) | ((with_reducible show wpAny _ _ (call (Value.builtin "len") [Value.ref _]) _ _ _); k_dflt (refine kst_len (by k_asm) (by k_mem) (by first | assumption | rfl) (by lia) ?_)) | ((with_reducible refine floordiv_int ?kbe ?_ (Or.inl (PyProof.noPylong_of_log2 ?kbp))); (case kbe => first | assumption | lia); (case kbp => assumption)) | walk1 | (dsimp only; walk1) | (leave1; (try dsimp only)) | fail "no step")
    have hz : min xs.toArray.size ys.toArray.size = min ps.length qs.length := by rw [List.size_toArray, List.size_toArray, cx.length, cy.length]
    rw [hz, zip_take_all] at hJ2
    refine hret _ (((D, LCg.lst zs) :: tl) ++ led) _ _ (by k_asm) (News.drop (news' := (D, LCg.lst zs) :: (tl ++ (L' + 1, oc) :: led)) (by k_asm) fun p hp => ?_) ⟨_, rfl, fun p hp q hq => ?_, D, _, zs, rfl, List.mem_cons_self, hJ2.mono fun p hp => List.mem_cons_of_mem _ hp⟩
    · rcases List.mem_append.mp hp with hp | hp
      · rcases List.mem_cons.mp hp with rfl | hp
        · exact List.mem_cons_self
        · exact List.mem_cons_of_mem _ (List.mem_append_left _ hp)
      · exact List.mem_cons_of_mem _ (List.mem_append_right _ (List.mem_cons_of_mem _ hp))
    · rcases List.mem_cons.mp hp with rfl | hp
      · exact hlt q (List.mem_cons_of_mem _ hq)
      · exact ht p hp q hq
theorem IterF.hideQ {prog : Program} {w : World} {A : Around} {E : Value → Shared → Prop} {h₀ : Heap} {env : Env} {x : Str} {body : List Stmt} {Q : Flow → Shared → Prop} {v : Value} {s : Shared}
    (h : ∀ Q' : Flow → Shared → Prop, (∀ f s, Q f s → Q' f s) → IterF prog w A E h₀ env x body Q' v s) : IterF prog w A E h₀ env x body Q v s := h Q fun _ _ h => h
theorem t_pivot (w : World) (mean : ExcName → Option Value) (mg mb : Str → Option Value) (led : List (Addr × Obj)) (M : List (List Rat)) (R : Addr) (kR c : Nat) (rs : List Value) (tc : Tok) (mR : (R, ({ cls := .type "list", data := .seq (List.toArray rs) kR } : Obj)) ∈ led) (hM : Rows led rs M) (hw : ∀ qs ∈ M, c < qs.length) (hl : M.length < 2 ^ 24) (hc : c ≤ M.length) :
    Tell w mean mg mb 121 2 led [.ref R, .int c tc] (fun led' v => led' = led ∧ match pivotIn M c (M.length - c) c with | some i => ∃ t, v = .int (i : Nat) t | none => v = .none) := by
  intro dp un gd cn cs a₁ ccd cl outer A₀ base h₀ L m s Q E B F X N T hk hd hu hret
  refine wpAny_call ?_
  k_dflt (refine' code_def (binds := [(Str.ofString "rows", .ref R), (Str.ofString "at", .int c tc)]) ?k1 ?k2 ?k3 ?k4 ?k5 ?kA ?kF ?kK ?k6 ?k7 ?k8 ?k9 ?kB ?_ ?c2 ?c3 ?c4 ?c5; (case kA => exact rfl); (case kF => exact rfl); (case kK => first | exact rfl | assumption); (case k1 => k_asm); (case k2 => k_asm); (case k3 => k_asm); (case k4 => k_asm); (case k5 => k_asm); (case k6 => k_is); (case k7 => k_is); (case k8 => ktr_room); (case k9 => exact BindsTo.of_eq rfl); (case c5 => decide); (case kB => exact locs rfl); (case c2 => exact rfl); (case c3 => exact rfl); (case c4 => exact rfl); k_whole; intro g' L' h' FG' F' N' B' X' T'; (try dsimp only); (try k_fold))
  have hrl := hM.1
  repeat' ((fail_if_success (first | (with_reducible refine stop_ref ?_) | (with_reducible refine stop_lc ?_) | (with_reducible refine stop_alc ?_) | (with_reducible refine stop_zip ?_) | (with_reducible show IterE1 _ _ _ _ _ _ _ _ _ _ _ _ _ _ _) | (with_reducible show IterA1 _ _ _ _ _ _ _ _ _ _ _ _ _ _ _ _) | (with_reducible show CompOut _ _ _ _ _ _ _ _ _) | (with_reducible show IterF _ _ _ _ _ _ _ _ _ _ _) | (with_reducible show ForOut _ _ _ _ _ _ _ _ _))); first | (k_unfold; (try dsimp only)) | ((with_reducible refine item_shape ?_); k_dflt (refine item_at (hs := by with_unfolding_all rfl) (by k_asm) (by k_mem) (by assumption) (by first | (with_reducible exact Int.natCast_nonneg _) | (with_reducible assumption) | decide | lia) (by first | (with_reducible assumption) | decide | lia) ?_)) | ((with_reducible refine for_shape ?_); k_dflt (refine ForF (hs := by intro _; rfl) (by k_asm) (by rfl) (by rfl) (by with_unfolding_all passes_own) ?_)) | ((with_reducible show wpAny _ _ (call (Value.builtin "len") [Value.ref _]) _ _ _); k_dflt (refine kst_len (by k_asm) (by k_mem) (by first | assumption | rfl) (by lia) ?_)) | ((with_reducible refine floordiv_int ?kbe ?_ (Or.inl (PyProof.noPylong_of_log2 ?kbp))); (case kbe => first | assumption | lia); (case kbp => assumption)) | walk1 | (dsimp only; walk1) | (leave1; (try dsimp only)) | fail "no step")
  rename IsRange _ _ _ _ _ _ _ _ => hr
  obtain ⟨hsm, hn⟩ := small_of (a := c) (b := M.length) (n := M.length - c) (by lia) (by lia) (by lia)
  refine IterF.hideQ fun Q9 hQ9 => ?_
  refine IterF.range rfl (by k_asm) (by k_asm) hr hsm hn (fun i m₁ led₁ => led₁ = led ∧ m₁ (Str.ofString "rows") = some (.ref R) ∧ m₁ (Str.ofString "at") = some (.int c tc) ∧ pivotIn M c (M.length - c) c = pivotIn M c (M.length - c - i) (c + i)) ⟨rfl, rfl, rfl, rfl⟩ ?_ ?_
  · intro i t m₁ led₁ own h tk hi hJ sep hown F1 N1
    refine hide fun H9 hH9 => ?_
    obtain ⟨rfl, e1, e2, e3⟩ := hJ
    have F2 := fr_known (fr_known F1 (x := Str.ofString "rows") (v := .ref R) (by rw [if_neg (by decide)]; exact e1)) (x := Str.ofString "at") (v := .int c tc) (by rw [if_neg (by decide), if_neg (by decide)]; exact e2)
    clear F1
    have hi' : c + i < M.length := Nat.add_comm i c ▸ Nat.add_lt_of_lt_sub hi
    have hfitI : ((c : Nat) : Int) + ((i : Nat) : Int) < 2 ^ 63 := Int.ofNat_lt.mpr (Nat.lt_trans hi' (Nat.lt_trans hl (by decide)))
    have hfitC : ((c : Nat) : Int) < 2 ^ 63 := Int.lt_of_le_of_lt (Int.le_add_of_nonneg_right (Int.natCast_nonneg i)) hfitI
    have hposI : 0 ≤ ((c : Nat) : Int) + ((i : Nat) : Int) := Int.add_nonneg (Int.natCast_nonneg _) (Int.natCast_nonneg _)
    have hqs : M[c + i]? = some M[c + i] := List.getElem?_eq_getElem hi'
    obtain ⟨v, hv, r, kr, cs, rfl, hmr, hcs⟩ := hM.at hqs
    have hcl := hw _ (List.getElem_mem hi')
    obtain ⟨a, ta, ua, hca, hma⟩ := hcs.at (List.getElem?_eq_getElem hcl)
    have hx1 : rs[((c : Int) + (i : Int)).toNat]? = some (.ref r) := by rw [← Int.natCast_add, Int.toNat_natCast]; exact hv
    have hx2 : cs[((c : Int)).toNat]? = some (.ref a) := by rw [Int.toNat_natCast]; exact hca
    obtain ⟨k', hk', hk2⟩ : ∃ k', M.length - c - i = k' + 1 ∧ M.length - c - (i + 1) = k' := ⟨_, sub_succ hi', rfl⟩
    refine hH9 ?_
    clear hH9 H9
    repeat' ((fail_if_success (first | (with_reducible refine stop_ref ?_) | (with_reducible refine stop_lc ?_) | (with_reducible refine stop_alc ?_) | (with_reducible refine stop_zip ?_) | (with_reducible show IterE1 _ _ _ _ _ _ _ _ _ _ _ _ _ _ _) | (with_reducible show IterA1 _ _ _ _ _ _ _ _ _ _ _ _ _ _ _ _) | (with_reducible show CompOut _ _ _ _ _ _ _ _ _) | (with_reducible show IterF _ _ _ _ _ _ _ _ _ _ _) | (with_reducible show ForOut _ _ _ _ _ _ _ _ _))); first | (k_unfold; (try dsimp only)) | ((with_reducible refine item_shape ?_); k_dflt (refine item_at (hs := by with_unfolding_all rfl) (by k_asm) (by k_mem) (by assumption) (by first | (with_reducible exact Int.natCast_nonneg _) | (with_reducible assumption) | decide | lia) (by first | (with_reducible assumption) | decide | lia) ?_)) | ((with_reducible refine for_shape ?_); k_dflt (refine ForF (hs := by intro _; rfl) (by k_asm) (by rfl) (by rfl) (by with_unfolding_all passes_own) ?_)) | ((with_reducible show wpAny _ _ (call (Value.builtin "len") [Value.ref _]) _ _ _); k_dflt (refine kst_len (by k_asm) (by k_mem) (by first | assumption | rfl) (by lia) ?_)) | ((with_reducible refine floordiv_int ?kbe ?_ (Or.inl (PyProof.noPylong_of_log2 ?kbp))); (case kbe => first | assumption | lia); (case kbp => assumption)) | walk1 | (dsimp only; walk1) | (leave1; (try dsimp only)) | fail "no step")
    · unfold ForOut
      refine hQ9 _ _ ?_
      dsimp only
      repeat' ((fail_if_success (first | (with_reducible refine stop_ref ?_) | (with_reducible refine stop_lc ?_) | (with_reducible refine stop_alc ?_) | (with_reducible refine stop_zip ?_) | (with_reducible show IterE1 _ _ _ _ _ _ _ _ _ _ _ _ _ _ _) | (with_reducible show IterA1 _ _ _ _ _ _ _ _ _ _ _ _ _ _ _ _) | (with_reducible show CompOut _ _ _ _ _ _ _ _ _) | (with_reducible show IterF _ _ _ _ _ _ _ _ _ _ _) | (with_reducible show ForOut _ _ _ _ _ _ _ _ _))); first | (k_unfold; (try dsimp only)) | ((with_reducible refine item_shape ?_); k_dflt (refine item_at (hs := by with_unfolding_all rfl) (by k_asm) (by k_mem) (by assumption) (by first | (with_reducible exact Int.natCast_nonneg _) | (with_reducible assumption) | decide | lia) (by first | (with_reducible assumption) | decide | lia) ?_)) | ((with_reducible refine for_shape ?_); k_dflt (refine ForF (hs := by intro _; rfl) (by k_asm) (by rfl) (by rfl) (by with_unfolding_all passes_own) ?_)) | ((with_reducible show wpAny _ _ (call (Value.builtin "len") [Value.ref _]) _ _ _); k_dflt (refine kst_len (by k_asm) (by k_mem) (by first | assumption | rfl) (by lia) ?_)) | ((with_reducible refine floordiv_int ?kbe ?_ (Or.inl (PyProof.noPylong_of_log2 ?kbp))); (case kbe => first | assumption | lia); (case kbp => assumption)) | walk1 | (dsimp only; walk1) | (leave1; (try dsimp only)) | fail "no step")
      refine hret _ _ _ _ (by k_asm) (News.drop (by k_asm) fun p hp => List.mem_append_right _ hp) ⟨rfl, ?_⟩
      rw [e3, hk', pivotIn_hit hqs (List.getElem?_eq_getElem hcl) (fun e => (by assumption : M[c + i][c].num ≠ 0) (Rat.num_eq_zero.mpr e))]
      exact ⟨_, by rw [Int.natCast_add]⟩
    · refine forOut_same (by k_asm) (by k_asm) (fun _ h => h) ⟨rfl, ?_, ?_, ?_⟩
      · with_unfolding_all rfl
      · with_unfolding_all rfl
      · rw [e3, hk', pivotIn_miss hqs (List.getElem?_eq_getElem hcl) (Rat.num_eq_zero.mp (by assumption)), hk2]; rfl
  · intro h tk m₁ led₁ hJ F1 N1
    refine hide fun H9 hH9 => ?_
    obtain ⟨rfl, e1, e2, e3⟩ := hJ
    refine hH9 ?_
    clear hH9 H9
    refine hQ9 _ _ ?_
    (try dsimp only)
    repeat' ((fail_if_success (first | (with_reducible refine stop_ref ?_) | (with_reducible refine stop_lc ?_) | (with_reducible refine stop_alc ?_) | (with_reducible refine stop_zip ?_) | (with_reducible show IterE1 _ _ _ _ _ _ _ _ _ _ _ _ _ _ _) | (with_reducible show IterA1 _ _ _ _ _ _ _ _ _ _ _ _ _ _ _ _) | (with_reducible show CompOut _ _ _ _ _ _ _ _ _) | (with_reducible show IterF _ _ _ _ _ _ _ _ _ _ _) | (with_reducible show ForOut _ _ _ _ _ _ _ _ _))); first | (k_unfold; (try dsimp only)) | ((with_reducible refine item_shape ?_); k_dflt (refine item_at (hs := by with_unfolding_all rfl) (by k_asm) (by k_mem) (by assumption) (by first | (with_reducible exact Int.natCast_nonneg _) | (with_reducible assumption) | decide | lia) (by first | (with_reducible assumption) | decide | lia) ?_)) | ((with_reducible refine for_shape ?_); k_dflt (refine ForF (hs := by intro _; rfl) (by k_asm) (by rfl) (by rfl) (by with_unfolding_all passes_own) ?_)) | ((with_reducible show wpAny _ _ (call (Value.builtin "len") [Value.ref _]) _ _ _); k_dflt (refine kst_len (by k_asm) (by k_mem) (by first | assumption | rfl) (by lia) ?_)) | ((with_reducible refine floordiv_int ?kbe ?_ (Or.inl (PyProof.noPylong_of_log2 ?kbp))); (case kbe => first | assumption | lia); (case kbp => assumption)) | walk1 | (dsimp only; walk1) | (leave1; (try dsimp only)) | fail "no step")
    refine hret _ _ _ _ (by k_asm) (by k_asm) ⟨rfl, ?_⟩
    rw [e3, Nat.sub_self]
    rfl
section
theorem fit_lt {i n : Nat} (h : i < n) (hn : n < 2 ^ 63) : ((i : Nat) : Int) < 2 ^ 63 := by lia
theorem Inv.elim {led led₁ : List (Addr × Obj)} {R C : Addr} {n : Nat} {M : Mat} {q : Rat} {m : Str → Option Value} {H : Prop} (h : Inv led R C n M q m led₁)
    (go : ∀ (rest : List (Addr × Obj)) (rs : List Value) (k : Nat) (oc : Obj) (v : Option Value) (T : Addr) (a b ts : Tok), led₁ = (R, { cls := .type "list", data := .seq rs.toArray k }) :: (C, oc) :: rest → oc.data = .cell v → OwnOff rest [R, C] → Above led rest → Rows rest rs M →
    (T, ({ cls := .type "tuple", data := .seq #[.int q.num a, .int (q.den : Nat) b] } : Obj)) ∈ rest → m (Str.ofString "rows") = some (.ref R) → m (Str.ofString "told") = some (.ref T) → m (Str.ofString "size") = some (.int n ts) → H) : H := by
  obtain ⟨rest, rs, k, oc, v, T, a, b, ts, h1, h2, h3, h4, h5, h6, h7, h8, h9⟩ := h
  exact go rest rs k oc v T a b ts h1 h2 h3 h4 h5 h6 h7 h8 h9
def SolvedJ (led : List (Addr × Obj)) (R C : Addr) (n wd k : Nat) (M : Mat) (i : Nat) (m₁ : Str → Option Value) (led₁ : List (Addr × Obj)) : Prop := ∃ Mi ti, Inv led R C n Mi ti m₁ led₁ ∧ Wide n wd Mi ∧ Mbits (Bit k i) Mi ∧ Qb (Bit k i) ti ∧ solveM n (n - i) i Mi ti = solveM n n 0 M 1
def ClearedJ (led : List (Addr × Obj)) (R C : Addr) (n i : Nat) (M : Mat) (q : Rat) (t : Tok) (j : Nat) (m₁ : Str → Option Value) (led₁ : List (Addr × Obj)) : Prop := Inv led R C n (clearTo i M j) q m₁ led₁ ∧ m₁ (Str.ofString "at") = some (.int i t)
def NormJ (base : List (Addr × Obj)) (qs : List Rat) (c : Rat) (j : Nat) (ys : List Value) (led₁ : List (Addr × Obj)) : Prop := ∃ tl, led₁ = tl ++ base ∧ (∀ p ∈ tl, ∀ q ∈ base, q.1 < p.1) ∧ Cells tl ys ((qs.take j).map (· / c))
def SwapP (s : Shared) (g : Heap) (L R C : Addr) (n i : Nat) (ts t : Tok) (oc : Obj) (rest0 : List (Addr × Obj)) (M : Mat) (q : Rat) (s' : Shared) : Prop :=
  ∃ h2 tk2 rs2 k2 rest2 T2 a2 b2 m2, s' = { s with heap := h2, toks := tk2 } ∧ Fr g L h2 m2 ∧ m2 (Str.ofString "rows") = some (.ref R) ∧ m2 (Str.ofString "told") = some (.ref T2) ∧ m2 (Str.ofString "size") = some (.int n ts) ∧ m2 (Str.ofString "at") = some (.int i t) ∧
          News g L h2 ((R, { cls := .type "list", data := .seq (List.toArray rs2) k2 }) :: (C, oc) :: rest2) ∧ OwnOff rest2 [R, C] ∧ Above rest0 rest2 ∧ Rows rest2 rs2 M ∧
          (T2, ({ cls := .type "tuple", data := .seq #[.int q.num a2, .int (q.den : Nat) b2] } : Obj)) ∈ rest2
theorem nn_a {n wd : Nat} (h : n ≤ wd) (h2 : wd < 2 ^ 20) : n < 2 ^ 63 := by lia
theorem nn_b {n wd : Nat} (h : n ≤ wd) (h2 : wd < 2 ^ 20) : n < 2 ^ 24 := by lia
theorem nn_c {wd : Nat} (h2 : wd < 2 ^ 20) : wd ≤ 16777216 := by lia
theorem nn_d {n wd : Nat} (h : n ≤ wd) (h2 : wd < 2 ^ 20) : ((n : Nat) : Int) < 2 ^ 30 := by lia
theorem nn_e {b : Nat} (h : 6 * b + 1 ≤ 7000) : 3 * (b + b) ≤ 7000 := by lia
theorem nn_f {n i p l : Nat} {P : Prop} (e : l = n) (h : i ≤ p ∧ p < i + (l - i) ∧ P) (hi : i < n) : p < n := by have := h.1; have := h.2.1; lia
theorem t_solved (w : World) (mean : ExcName → Option Value) (mg mb : Str → Option Value) (led : List (Addr × Obj)) (M : Mat) (n wd k : Nat) (R : Addr) (kR : Nat) (rs : List Value) (mR : (R, ({ cls := .type "list", data := .seq (List.toArray rs) kR } : Obj)) ∈ led) (hM : Rows led rs M) (hw : Wide n wd M) (hn : n ≤ wd) (hb : Mbits k M) (hk1 : 1 ≤ k) (hB : Bit k n ≤ 7000) (hwd : wd < 2 ^ 20) :
    Tell w mean mg mb 131 8 led [.ref R] (fun led' v => Ext led led' ∧ ∃ x R' kR' T rs' t u, v = .ref x ∧ (x, ({ cls := .type "tuple", data := .seq #[.ref R', .ref T] } : Obj)) ∈ led' ∧ (R', ({ cls := .type "list", data := .seq (List.toArray rs') kR' } : Obj)) ∈ led' ∧ Rows led' rs' (solveM n n 0 M 1).1 ∧ (T, ({ cls := .type "tuple", data := .seq #[.int (solveM n n 0 M 1).2.num t, .int ((solveM n n 0 M 1).2.den : Nat) u] } : Obj)) ∈ led') := by
  intro dp un gd cn cs a₁ ccd cl outer A₀ base h₀ L m s Q E B F X N T hk hd hu hret
  refine wpAny_call ?_
  k_dflt (refine' code_defC (binds := [(Str.ofString "rows", .ref R)]) ?k1 ?k2 ?k3 ?k4 ?k5 ?kA ?kF ?kK ?k6 ?k7 ?k8 ?k9 ?kB ?kD ?_ ?c2 ?c3 ?c4; (case kA => exact rfl); (case kF => exact rfl); (case kK => first | exact rfl | assumption); (case k1 => k_asm); (case k2 => k_asm); (case k3 => k_asm); (case k4 => k_asm); (case k5 => k_asm); (case k6 => k_is); (case k7 => k_is); (case k8 => ktr_room); (case k9 => exact BindsTo.of_eq rfl); (case kB => exact rfl); (case kD => decide +kernel); (case c2 => exact rfl); (case c3 => exact rfl); (case c4 => exact rfl); k_whole; intro g' L' h' tk' cells' FG' F' N' Y' B' X' T' l1; (try k_lt l1); k_cells Y'; (try simp only [List.cons_append, List.nil_append] at N'); (try dsimp only); (try k_fold))
  rename_i oc dc
  have hrl : rs.length = n := hM.1.trans hw.1
  have hsz : rs.length ≤ sizeLine := by rw [sizeLine_eq, hrl]; exact nn_c (Nat.lt_of_le_of_lt hn hwd)
  repeat' ((fail_if_success (first | (with_reducible show JoinOut _ _ _) | (with_reducible show wpAny _ _ (setItem (Value.ref _) (Value.int _ _) _) _ _ _) | (with_reducible show wpAny _ _ (exec (Stmt.If (Expr.Compare (Expr.Name (Str.ofString "spot") _) [CmpOp.NotEq] _ _) _ _ _) _) _ _ _) | (with_reducible refine stop_ref ?_) | (with_reducible refine stop_lc ?_) | (with_reducible refine stop_alc ?_) | (with_reducible refine stop_zip ?_) | (with_reducible show IterE1 _ _ _ _ _ _ _ _ _ _ _ _ _ _ _) | (with_reducible show IterA1 _ _ _ _ _ _ _ _ _ _ _ _ _ _ _ _) | (with_reducible show CompOut _ _ _ _ _ _ _ _ _) | (with_reducible show IterF _ _ _ _ _ _ _ _ _ _ _) | (with_reducible show ForOut _ _ _ _ _ _ _ _ _))); first | (k_unfold; (try dsimp only)) | ((with_reducible show wpAny _ _ (call (Value.type "list") [Value.ref _]) _ _ _); k_dflt (refine list_copy_at (by k_asm) (by k_asm) (by k_mem) (by assumption) ?_); intro _ _ _ _ _ lR; (try k_lt lR)) | ((with_reducible refine item_shape ?_); k_dflt (refine item_at (hs := by with_unfolding_all rfl) (by k_asm) (by k_mem) (by assumption) (by first | (with_reducible exact Int.natCast_nonneg _) | (with_reducible assumption) | decide | lia) (by first | (with_reducible assumption) | decide | lia) ?_)) | ((with_reducible refine for_shape ?_); k_dflt (refine ForF (hs := by intro _; rfl) (by k_asm) (by rfl) (by rfl) (by with_unfolding_all passes_own) ?_)) | ((with_reducible show wpAny _ _ (call (Value.builtin "len") [Value.ref _]) _ _ _); k_dflt (refine kst_len (by k_asm) (by k_mem) (by first | assumption | rfl) (by lia) ?_)) | ((with_reducible refine floordiv_int ?kbe ?_ (Or.inl (PyProof.noPylong_of_log2 ?kbp))); (case kbe => first | assumption | lia); (case kbp => assumption)) | walk1 | (dsimp only; walk1) | (leave1; (try dsimp only)) | fail "no step")
  rename_i T0 hx6 lT Dp hx7 lD hx5 hx4 hx3 tk1 R' cR hx2 hx1 FF NN hx0 tk0 t1 u1 v1 hr F0 N0 kp
  obtain ⟨hsm, hn'⟩ := small_of (a := 0) (b := n) (n := n) (Int.le_refl _) (nn_d hn hwd) (Int.sub_zero _).symm
  have ltT : ∀ q ∈ led, q.1 < T0 := lt_of_all lT.2
  have ltD : ∀ q ∈ led, q.1 < Dp := lt_of_all lD.2.2
  have ltR : ∀ q ∈ led, q.1 < R' := lt_of_all lR.2.2.2
  have hCR : @LT.lt Nat _ (L' + 1) R' := lR.2.2.1
  clear FF NN hx6 hx7 hx5 hx4 hx3 hx2 kp
  refine IterF.hideQ fun Q9 hQ9 => ?_
  refine IterF.range rfl F0 (led := (R', { cls := .type "list", data := .seq rs.toArray cR }) :: (L' + 1, oc) :: (T0, { cls := .type "tuple", data := .seq #[.int 1 tk', .int 1 (tk' + 1)] }) :: led) (News.drop N0 ?_) hr hsm hn'
    (SolvedJ led R' (L' + 1) n wd k M)
    ⟨M, 1, ⟨_, rs, cR, oc, _, T0, _, _, _, rfl, dc, ?_, (Above.refl led).cons ltT, hM.mono (fun p hp => List.mem_cons_of_mem _ hp), List.mem_cons_self, rfl, rfl, rfl⟩, hw, hb, ⟨Nat.le_trans (by decide) hk1, Nat.le_trans (by decide) hk1⟩, rfl⟩ ?_ ?_
  · intro p hp
    simp only [List.mem_cons] at hp ⊢
    rcases hp with h | h | h | h
    · exact .inl h
    · exact .inr (.inr (.inr (.inl h)))
    · exact .inr (.inr (.inl h))
    · exact .inr (.inr (.inr (.inr h)))
  · refine mem_own2 (fun p hp => ?_) (fun p hp => ?_)
    · rcases List.mem_cons.mp hp with rfl | hp
      · exact Nat.ne_of_lt lR.2.1
      · exact Nat.ne_of_lt (ltR p hp)
    · rcases List.mem_cons.mp hp with rfl | hp
      · exact Ne.symm (Nat.ne_of_lt lT.1)
      · exact Nat.ne_of_lt (Nat.lt_succ_of_lt (l1 p hp))
  · intro i t m₁ led₁ own h tk hi hJ sep hown F1 N1
    refine hide fun H9 hH9 => ?_
    obtain ⟨Mi, ti, hInv, hWi, hBi, hti, hsol⟩ := hJ
    refine hInv.elim fun rest rs1 k1 oc1 vc T ta tb ts hled hcd hoff hA hRows hT e1 e2 e3 => ?_
    clear hInv
    rw [hled] at N1 sep
    simp only [Int.zero_add] at F1
    have F2 := fr_known4 F1 (a := Str.ofString "rows") (b := Str.ofString "told") (c := Str.ofString "size") (d := Str.ofString "at") (by rw [if_neg (by decide)]; exact e1) (by rw [if_neg (by decide)]; exact e2) (by rw [if_neg (by decide)]; exact e3) (by rw [if_pos rfl])
    have N2 : News g' L' h ((R', { cls := .type "list", data := .seq rs1.toArray k1 }) :: (L' + 1, oc1) :: (rest ++ own)) := News.drop N1 fun p hp => by
      simp only [List.mem_cons, List.mem_append] at hp ⊢
      rcases hp with h | h | h | h
      · exact .inr (.inl h)
      · exact .inr (.inr (.inl h))
      · exact .inr (.inr (.inr h))
      · exact .inl h
    have hoff0 : OwnOff (rest ++ own) [R', L' + 1] := Mine.OwnOff.app hoff (mem_own2 (fun p hp e => sep _ List.mem_cons_self p hp e.symm) (fun p hp e => sep _ (List.mem_cons_of_mem _ List.mem_cons_self) p hp e.symm))
    have hRows0 : Rows (rest ++ own) rs1 Mi := hRows.mono fun p hp => List.mem_append_left _ hp
    have hT0 := List.mem_append_left own hT
    clear F1 N1 F0 N0 hr
    generalize hr0 : rest ++ own = rest0 at N2 hoff0 hRows0 hT0
    have hRowsL : Rows ((R', { cls := .type "list", data := .seq rs1.toArray k1 }) :: (L' + 1, oc1) :: rest0) rs1 Mi := hRows0.mono fun p hp => List.mem_cons_of_mem _ (List.mem_cons_of_mem _ hp)
    have hwi : ∀ qs ∈ Mi, i < qs.length := fun qs hq => by rw [hWi.2 qs hq]; exact Nat.lt_of_lt_of_le hi hn
    have hli : Mi.length < 2 ^ 24 := by rw [hWi.1]; exact nn_b hn hwd
    have hci : i ≤ Mi.length := by rw [hWi.1]; exact Nat.le_of_lt hi
    have hrl1 : rs1.length = n := hRows.1.trans hWi.1
    have hn63 : n < 2 ^ 63 := nn_a hn hwd
    have hfitI := fit_lt hi hn63
    refine hH9 ?_
    clear hH9 H9
    subst hled
    repeat' ((fail_if_success (first | (with_reducible show JoinOut _ _ _) | (with_reducible show wpAny _ _ (setItem (Value.ref _) (Value.int _ _) _) _ _ _) | (with_reducible show wpAny _ _ (exec (Stmt.If (Expr.Compare (Expr.Name (Str.ofString "spot") _) [CmpOp.NotEq] _ _) _ _ _) _) _ _ _) | (with_reducible refine stop_ref ?_) | (with_reducible refine stop_lc ?_) | (with_reducible refine stop_alc ?_) | (with_reducible refine stop_zip ?_) | (with_reducible show IterE1 _ _ _ _ _ _ _ _ _ _ _ _ _ _ _) | (with_reducible show IterA1 _ _ _ _ _ _ _ _ _ _ _ _ _ _ _ _) | (with_reducible show CompOut _ _ _ _ _ _ _ _ _) | (with_reducible show IterF _ _ _ _ _ _ _ _ _ _ _) | (with_reducible show ForOut _ _ _ _ _ _ _ _ _))); first | (k_unfold; (try dsimp only)) | ((with_reducible show wpAny _ _ (call (Value.type "list") [Value.ref _]) _ _ _); k_dflt (refine list_copy_at (by k_asm) (by k_asm) (by k_mem) (by assumption) ?_); intro _ _ _ _ _ lR; (try k_lt lR)) | ((with_reducible refine item_shape ?_); k_dflt (refine item_at (hs := by with_unfolding_all rfl) (by k_asm) (by k_mem) (by assumption) (by first | (with_reducible exact Int.natCast_nonneg _) | (with_reducible assumption) | decide | lia) (by first | (with_reducible assumption) | decide | lia) ?_)) | ((with_reducible refine for_shape ?_); k_dflt (refine ForF (hs := by intro _; rfl) (by k_asm) (by rfl) (by rfl) (by with_unfolding_all passes_own) ?_)) | ((with_reducible show wpAny _ _ (call (Value.builtin "len") [Value.ref _]) _ _ _); k_dflt (refine kst_len (by k_asm) (by k_mem) (by first | assumption | rfl) (by lia) ?_)) | ((with_reducible refine floordiv_int ?kbe ?_ (Or.inl (PyProof.noPylong_of_log2 ?kbp))); (case kbe => first | assumption | lia); (case kbp => assumption)) | walk1 | (dsimp only; walk1) | (leave1; (try dsimp only)) | fail "no step")
    refine Tell.goO (N := by k_asm) (B := by k_asm) (F := by k_asm) (X := by k_asm) (T := by k_asm) (hk := by first | exact rfl | assumption) (C := t_pivot _ _ _ _ _ _ _ _ _ _ _ (by k_mem) (by assumption) (by assumption) (by assumption) (by assumption)) (one := ?_) (non := ?_) (hd := by first | decide | exact room1 (by assumption) (by decide) | ktr_room) (hu := by first | decide | exact units1 (by assumption) (by decide) | ktr_units)
    rotate_left
    · intro h9 tk9 hnone F9 N9
      (try dsimp only)
      (try k_fold)
      repeat' ((fail_if_success (first | (with_reducible show JoinOut _ _ _) | (with_reducible show wpAny _ _ (setItem (Value.ref _) (Value.int _ _) _) _ _ _) | (with_reducible show wpAny _ _ (exec (Stmt.If (Expr.Compare (Expr.Name (Str.ofString "spot") _) [CmpOp.NotEq] _ _) _ _ _) _) _ _ _) | (with_reducible refine stop_ref ?_) | (with_reducible refine stop_lc ?_) | (with_reducible refine stop_alc ?_) | (with_reducible refine stop_zip ?_) | (with_reducible show IterE1 _ _ _ _ _ _ _ _ _ _ _ _ _ _ _) | (with_reducible show IterA1 _ _ _ _ _ _ _ _ _ _ _ _ _ _ _ _) | (with_reducible show CompOut _ _ _ _ _ _ _ _ _) | (with_reducible show IterF _ _ _ _ _ _ _ _ _ _ _) | (with_reducible show ForOut _ _ _ _ _ _ _ _ _))); first | (k_unfold; (try dsimp only)) | ((with_reducible show wpAny _ _ (call (Value.type "list") [Value.ref _]) _ _ _); k_dflt (refine list_copy_at (by k_asm) (by k_asm) (by k_mem) (by assumption) ?_); intro _ _ _ _ _ lR; (try k_lt lR)) | ((with_reducible refine item_shape ?_); k_dflt (refine item_at (hs := by with_unfolding_all rfl) (by k_asm) (by k_mem) (by assumption) (by first | (with_reducible exact Int.natCast_nonneg _) | (with_reducible assumption) | decide | lia) (by first | (with_reducible assumption) | decide | lia) ?_)) | ((with_reducible refine for_shape ?_); k_dflt (refine ForF (hs := by intro _; rfl) (by k_asm) (by rfl) (by rfl) (by with_unfolding_all passes_own) ?_)) | ((with_reducible show wpAny _ _ (call (Value.builtin "len") [Value.ref _]) _ _ _); k_dflt (refine kst_len (by k_asm) (by k_mem) (by first | assumption | rfl) (by lia) ?_)) | ((with_reducible refine floordiv_int ?kbe ?_ (Or.inl (PyProof.noPylong_of_log2 ?kbp))); (case kbe => first | assumption | lia); (case kbp => assumption)) | walk1 | (dsimp only; walk1) | (leave1; (try dsimp only)) | fail "no step")
      unfold ForOut
      refine hQ9 _ _ ?_
      dsimp only
      repeat' ((fail_if_success (first | (with_reducible show JoinOut _ _ _) | (with_reducible show wpAny _ _ (setItem (Value.ref _) (Value.int _ _) _) _ _ _) | (with_reducible show wpAny _ _ (exec (Stmt.If (Expr.Compare (Expr.Name (Str.ofString "spot") _) [CmpOp.NotEq] _ _) _ _ _) _) _ _ _) | (with_reducible refine stop_ref ?_) | (with_reducible refine stop_lc ?_) | (with_reducible refine stop_alc ?_) | (with_reducible refine stop_zip ?_) | (with_reducible show IterE1 _ _ _ _ _ _ _ _ _ _ _ _ _ _ _) | (with_reducible show IterA1 _ _ _ _ _ _ _ _ _ _ _ _ _ _ _ _) | (with_reducible show CompOut _ _ _ _ _ _ _ _ _) | (with_reducible show IterF _ _ _ _ _ _ _ _ _ _ _) | (with_reducible show ForOut _ _ _ _ _ _ _ _ _))); first | (k_unfold; (try dsimp only)) | ((with_reducible show wpAny _ _ (call (Value.type "list") [Value.ref _]) _ _ _); k_dflt (refine list_copy_at (by k_asm) (by k_asm) (by k_mem) (by assumption) ?_); intro _ _ _ _ _ lR; (try k_lt lR)) | ((with_reducible refine item_shape ?_); k_dflt (refine item_at (hs := by with_unfolding_all rfl) (by k_asm) (by k_mem) (by assumption) (by first | (with_reducible exact Int.natCast_nonneg _) | (with_reducible assumption) | decide | lia) (by first | (with_reducible assumption) | decide | lia) ?_)) | ((with_reducible refine for_shape ?_); k_dflt (refine ForF (hs := by intro _; rfl) (by k_asm) (by rfl) (by rfl) (by with_unfolding_all passes_own) ?_)) | ((with_reducible show wpAny _ _ (call (Value.builtin "len") [Value.ref _]) _ _ _); k_dflt (refine kst_len (by k_asm) (by k_mem) (by first | assumption | rfl) (by lia) ?_)) | ((with_reducible refine floordiv_int ?kbe ?_ (Or.inl (PyProof.noPylong_of_log2 ?kbp))); (case kbe => first | assumption | lia); (case kbp => assumption)) | walk1 | (dsimp only; walk1) | (leave1; (try dsimp only)) | fail "no step")
      rename_i hx2 Tz hx3 lz Xz hx4 FX NX lX kF kN tc kx
      have hS : solveM n n 0 M 1 = (Mi, 0) := by
        rw [← hsol, show n - i = (n - i - 1) + 1 from (Nat.sub_add_cancel (Nat.sub_pos_of_lt hi)).symm]
        unfold solveM turnM
        rw [hnone]
      have hle : ∀ q ∈ led, q ∈ rest0 := fun q hq => by rw [← hr0]; exact List.mem_append_left _ (hA.1 q hq)
      obtain ⟨led', hE, hs1, hs2⟩ := Ext.of_above (led := led) (rest := (Xz, { cls := .type "tuple", data := .seq #[.ref R', .ref Tz] }) :: (Tz, { cls := .type "tuple", data := .seq #[.int 0 tk, .int 1 (tk + 1)] }) :: (R', { cls := .type "list", data := .seq rs1.toArray k1 }) :: (L' + 1, oc1) :: rest)
        ((((hA.cons (fun q hq => Nat.lt_succ_of_lt (l1 q hq))).cons ltR).cons (fun q hq => lt_of_all lz.2.2 q (hle q hq))).cons (fun q hq => lt_of_all lX.2.2.2 q (hle q hq)))
      refine hret _ led' _ _ kF (News.drop kN fun p hp => ?_) ?_
      · have := hs1 p hp
        rw [← hr0]
        simp only [List.mem_cons, List.mem_append] at this ⊢
        rcases this with h | h | h | h | h
        · exact .inl h
        · exact .inr (.inl h)
        · exact .inr (.inr (.inl h))
        · exact .inr (.inr (.inr (.inl h)))
        · exact .inr (.inr (.inr (.inr (.inl h))))
      · simp only [hS]
        refine ⟨hE, Xz, R', k1, Tz, rs1, tk, tk + 1, rfl, hs2 _ List.mem_cons_self, hs2 _ (List.mem_cons_of_mem _ (List.mem_cons_of_mem _ List.mem_cons_self)), hRows.mono fun p hp => hs2 _ ?_, hs2 _ (List.mem_cons_of_mem _ List.mem_cons_self)⟩
        exact List.mem_cons_of_mem _ (List.mem_cons_of_mem _ (List.mem_cons_of_mem _ (List.mem_cons_of_mem _ hp)))
    · intro p t9 h9 tk9 hsome F9 N9
      (try dsimp only)
      (try k_fold)
      repeat' ((fail_if_success (first | (with_reducible show JoinOut _ _ _) | (with_reducible show wpAny _ _ (setItem (Value.ref _) (Value.int _ _) _) _ _ _) | (with_reducible show wpAny _ _ (exec (Stmt.If (Expr.Compare (Expr.Name (Str.ofString "spot") _) [CmpOp.NotEq] _ _) _ _ _) _) _ _ _) | (with_reducible refine stop_ref ?_) | (with_reducible refine stop_lc ?_) | (with_reducible refine stop_alc ?_) | (with_reducible refine stop_zip ?_) | (with_reducible show IterE1 _ _ _ _ _ _ _ _ _ _ _ _ _ _ _) | (with_reducible show IterA1 _ _ _ _ _ _ _ _ _ _ _ _ _ _ _ _) | (with_reducible show CompOut _ _ _ _ _ _ _ _ _) | (with_reducible show IterF _ _ _ _ _ _ _ _ _ _ _) | (with_reducible show ForOut _ _ _ _ _ _ _ _ _))); first | (k_unfold; (try dsimp only)) | ((with_reducible show wpAny _ _ (call (Value.type "list") [Value.ref _]) _ _ _); k_dflt (refine list_copy_at (by k_asm) (by k_asm) (by k_mem) (by assumption) ?_); intro _ _ _ _ _ lR; (try k_lt lR)) | ((with_reducible refine item_shape ?_); k_dflt (refine item_at (hs := by with_unfolding_all rfl) (by k_asm) (by k_mem) (by assumption) (by first | (with_reducible exact Int.natCast_nonneg _) | (with_reducible assumption) | decide | lia) (by first | (with_reducible assumption) | decide | lia) ?_)) | ((with_reducible refine for_shape ?_); k_dflt (refine ForF (hs := by intro _; rfl) (by k_asm) (by rfl) (by rfl) (by with_unfolding_all passes_own) ?_)) | ((with_reducible show wpAny _ _ (call (Value.builtin "len") [Value.ref _]) _ _ _); k_dflt (refine kst_len (by k_asm) (by k_mem) (by first | assumption | rfl) (by lia) ?_)) | ((with_reducible refine floordiv_int ?kbe ?_ (Or.inl (PyProof.noPylong_of_log2 ?kbp))); (case kbe => first | assumption | lia); (case kbp => assumption)) | walk1 | (dsimp only; walk1) | (leave1; (try dsimp only)) | fail "no step")
      rename_i hx2 FF NN
      have hps := pivotIn_some hsome
      have hpn : p < n := nn_f hWi.1 hps hi
      have hfitP := fit_lt hpn hn63
      obtain ⟨qp, gp, lp, ep⟩ := hWi.row hpn
      obtain ⟨qi, gi, li, ei⟩ := hWi.row hi
      obtain ⟨vp, hvp, hrp⟩ := hRows0.at gp
      obtain ⟨vi, hvi, hri⟩ := hRows0.at gi
      refine If_join (SwapP s g' L' R' (L' + 1) n i ts t oc1 rest0 (if p = i then Mi else swapM Mi i p) (if p = i then ti else -ti)) ?_ ?_
      · have hxp : rs1[((p : Nat) : Int).toNat]? = some vp := by rw [Int.toNat_natCast]; exact hvp
        have hxi : rs1[((i : Nat) : Int).toNat]? = some vi := by rw [Int.toNat_natCast]; exact hvi
        (first | walk1 | (dsimp only; walk1))
        repeat' ((fail_if_success (first | (with_reducible show JoinOut _ _ _) | (with_reducible show wpAny _ _ (setItem (Value.ref _) (Value.int _ _) _) _ _ _) | (with_reducible show wpAny _ _ (exec (Stmt.If (Expr.Compare (Expr.Name (Str.ofString "spot") _) [CmpOp.NotEq] _ _) _ _ _) _) _ _ _) | (with_reducible refine stop_ref ?_) | (with_reducible refine stop_lc ?_) | (with_reducible refine stop_alc ?_) | (with_reducible refine stop_zip ?_) | (with_reducible show IterE1 _ _ _ _ _ _ _ _ _ _ _ _ _ _ _) | (with_reducible show IterA1 _ _ _ _ _ _ _ _ _ _ _ _ _ _ _ _) | (with_reducible show CompOut _ _ _ _ _ _ _ _ _) | (with_reducible show IterF _ _ _ _ _ _ _ _ _ _ _) | (with_reducible show ForOut _ _ _ _ _ _ _ _ _))); first | (k_unfold; (try dsimp only)) | ((with_reducible show wpAny _ _ (call (Value.type "list") [Value.ref _]) _ _ _); k_dflt (refine list_copy_at (by k_asm) (by k_asm) (by k_mem) (by assumption) ?_); intro _ _ _ _ _ lR; (try k_lt lR)) | ((with_reducible refine item_shape ?_); k_dflt (refine item_at (hs := by with_unfolding_all rfl) (by k_asm) (by k_mem) (by assumption) (by first | (with_reducible exact Int.natCast_nonneg _) | (with_reducible assumption) | decide | lia) (by first | (with_reducible assumption) | decide | lia) ?_)) | ((with_reducible refine for_shape ?_); k_dflt (refine ForF (hs := by intro _; rfl) (by k_asm) (by rfl) (by rfl) (by with_unfolding_all passes_own) ?_)) | ((with_reducible show wpAny _ _ (call (Value.builtin "len") [Value.ref _]) _ _ _); k_dflt (refine kst_len (by k_asm) (by k_mem) (by first | assumption | rfl) (by lia) ?_)) | ((with_reducible refine floordiv_int ?kbe ?_ (Or.inl (PyProof.noPylong_of_log2 ?kbp))); (case kbe => first | assumption | lia); (case kbp => assumption)) | walk1 | (dsimp only; walk1) | (leave1; (try dsimp only)) | fail "no step")
        · rename_i hne Dp2 hxa lDp hxb FD ND
          refine set_at ((L' + 1, oc1) :: rest0) FD ND (List.mem_cons_of_mem _ List.mem_cons_self) (by first | (with_reducible exact Int.natCast_nonneg _) | lia) (by lia) (by first | (with_reducible assumption) | lia) (fun p hp => ⟨List.mem_cons_of_mem _ (List.mem_cons_of_mem _ hp), ?_⟩) ?_
          · rcases List.mem_cons.mp hp with rfl | hp
            · exact Nat.ne_of_lt hCR
            · exact hoff0 p hp _ List.mem_cons_self
          intro c2 h2 F3 N3
          rw [Int.toNat_natCast] at N3
          repeat' ((fail_if_success (first | (with_reducible show JoinOut _ _ _) | (with_reducible show wpAny _ _ (setItem (Value.ref _) (Value.int _ _) _) _ _ _) | (with_reducible show wpAny _ _ (exec (Stmt.If (Expr.Compare (Expr.Name (Str.ofString "spot") _) [CmpOp.NotEq] _ _) _ _ _) _) _ _ _) | (with_reducible refine stop_ref ?_) | (with_reducible refine stop_lc ?_) | (with_reducible refine stop_alc ?_) | (with_reducible refine stop_zip ?_) | (with_reducible show IterE1 _ _ _ _ _ _ _ _ _ _ _ _ _ _ _) | (with_reducible show IterA1 _ _ _ _ _ _ _ _ _ _ _ _ _ _ _ _) | (with_reducible show CompOut _ _ _ _ _ _ _ _ _) | (with_reducible show IterF _ _ _ _ _ _ _ _ _ _ _) | (with_reducible show ForOut _ _ _ _ _ _ _ _ _))); first | (k_unfold; (try dsimp only)) | ((with_reducible show wpAny _ _ (call (Value.type "list") [Value.ref _]) _ _ _); k_dflt (refine list_copy_at (by k_asm) (by k_asm) (by k_mem) (by assumption) ?_); intro _ _ _ _ _ lR; (try k_lt lR)) | ((with_reducible refine item_shape ?_); k_dflt (refine item_at (hs := by with_unfolding_all rfl) (by k_asm) (by k_mem) (by assumption) (by first | (with_reducible exact Int.natCast_nonneg _) | (with_reducible assumption) | decide | lia) (by first | (with_reducible assumption) | decide | lia) ?_)) | ((with_reducible refine for_shape ?_); k_dflt (refine ForF (hs := by intro _; rfl) (by k_asm) (by rfl) (by rfl) (by with_unfolding_all passes_own) ?_)) | ((with_reducible show wpAny _ _ (call (Value.builtin "len") [Value.ref _]) _ _ _); k_dflt (refine kst_len (by k_asm) (by k_mem) (by first | assumption | rfl) (by lia) ?_)) | ((with_reducible refine floordiv_int ?kbe ?_ (Or.inl (PyProof.noPylong_of_log2 ?kbp))); (case kbe => first | assumption | lia); (case kbp => assumption)) | walk1 | (dsimp only; walk1) | (leave1; (try dsimp only)) | fail "no step")
          refine set_at ((L' + 1, oc1) :: rest0) (by k_asm) N3 List.mem_cons_self (by lia) (by rw [List.length_set]; lia) (by lia) (fun p hp => ⟨List.mem_cons_of_mem _ hp, ?_⟩) ?_
          · rcases List.mem_cons.mp hp with rfl | hp
            · exact Nat.ne_of_lt hCR
            · exact hoff0 p hp _ List.mem_cons_self
          intro c3 h3 F4 N4
          rw [Int.toNat_natCast] at N4
          repeat' ((fail_if_success (first | (with_reducible show JoinOut _ _ _) | (with_reducible show wpAny _ _ (setItem (Value.ref _) (Value.int _ _) _) _ _ _) | (with_reducible show wpAny _ _ (exec (Stmt.If (Expr.Compare (Expr.Name (Str.ofString "spot") _) [CmpOp.NotEq] _ _) _ _ _) _) _ _ _) | (with_reducible refine stop_ref ?_) | (with_reducible refine stop_lc ?_) | (with_reducible refine stop_alc ?_) | (with_reducible refine stop_zip ?_) | (with_reducible show IterE1 _ _ _ _ _ _ _ _ _ _ _ _ _ _ _) | (with_reducible show IterA1 _ _ _ _ _ _ _ _ _ _ _ _ _ _ _ _) | (with_reducible show CompOut _ _ _ _ _ _ _ _ _) | (with_reducible show IterF _ _ _ _ _ _ _ _ _ _ _) | (with_reducible show ForOut _ _ _ _ _ _ _ _ _))); first | (k_unfold; (try dsimp only)) | ((with_reducible show wpAny _ _ (call (Value.type "list") [Value.ref _]) _ _ _); k_dflt (refine list_copy_at (by k_asm) (by k_asm) (by k_mem) (by assumption) ?_); intro _ _ _ _ _ lR; (try k_lt lR)) | ((with_reducible refine item_shape ?_); k_dflt (refine item_at (hs := by with_unfolding_all rfl) (by k_asm) (by k_mem) (by assumption) (by first | (with_reducible exact Int.natCast_nonneg _) | (with_reducible assumption) | decide | lia) (by first | (with_reducible assumption) | decide | lia) ?_)) | ((with_reducible refine for_shape ?_); k_dflt (refine ForF (hs := by intro _; rfl) (by k_asm) (by rfl) (by rfl) (by with_unfolding_all passes_own) ?_)) | ((with_reducible show wpAny _ _ (call (Value.builtin "len") [Value.ref _]) _ _ _); k_dflt (refine kst_len (by k_asm) (by k_mem) (by first | assumption | rfl) (by lia) ?_)) | ((with_reducible refine floordiv_int ?kbe ?_ (Or.inl (PyProof.noPylong_of_log2 ?kbp))); (case kbe => first | assumption | lia); (case kbp => assumption)) | walk1 | (dsimp only; walk1) | (leave1; (try dsimp only)) | fail "no step")
          rename_i tkA Tn hxc lTn hxd FE NE
          refine ⟨rfl, _, _, (rs1.set i vp).set p vi, c3, (Tn, { cls := .type "tuple", data := .seq #[.int (-ti.num) (tkA + 1), .int (ti.den : Nat) tb] }) :: rest0, Tn, tkA + 1, tb, _, rfl, FE, rfl, rfl, rfl, rfl, News.drop NE ?_, ?_, (Above.refl _).cons (lt_of_all lTn.2.2), ?_, ?_⟩
          · intro p hp
            simp only [List.mem_cons] at hp ⊢
            rcases hp with h | h | h | h
            · exact .inr (.inl h)
            · exact .inr (.inr (.inl h))
            · exact .inl h
            · exact .inr (.inr (.inr h))
          · refine mem_own2 (fun p hp => ?_) (fun p hp => ?_)
            · rcases List.mem_cons.mp hp with rfl | hp
              · exact Ne.symm (Nat.ne_of_lt lTn.1)
              · exact hoff0 p hp _ List.mem_cons_self
            · rcases List.mem_cons.mp hp with rfl | hp
              · exact Ne.symm (Nat.ne_of_lt lTn.2.1)
              · exact hoff0 p hp _ (List.mem_cons_of_mem _ List.mem_cons_self)
          · rw [if_neg (by lia)]
            unfold swapM
            rw [ep, ei]
            exact ((hRows0.mono fun p hp => List.mem_cons_of_mem _ hp).set (hrp.mono fun p hp => List.mem_cons_of_mem _ hp)).set (hri.mono fun p hp => List.mem_cons_of_mem _ hp)
          · rw [if_neg (by lia), Rat.neg_num, Rat.neg_den]
            exact List.mem_cons_self
        · refine ⟨rfl, _, _, rs1, k1, rest0, T, ta, tb, _, rfl, FF, rfl, rfl, rfl, rfl, NN, hoff0, Above.refl _, ?_, ?_⟩
          · rw [if_pos (by lia)]; exact hRows0
          · rw [if_pos (by lia)]; exact hT0
      · have htn := turnM_of (n := n) (t := ti) hsome
        have hW1 : Wide n wd (if p = i then Mi else swapM Mi i p) := by split; exact hWi; exact swapM_wide hWi hi hpn
        have hB1 : Mbits (Bit k i) (if p = i then Mi else swapM Mi i p) := by split; exact hBi; exact swapM_bits hWi hBi hi hpn
        have hQ1 : Qb (Bit k i) (if p = i then ti else -ti) := by split; exact hti; exact hti.neg
        have hne1 : cellM (if p = i then Mi else swapM Mi i p) i i ≠ 0 := by
          split
          · rename_i hpi; rw [← hpi] at hps ⊢; exact hps.2.2
          · rename_i hpi; rw [swapM_cell hWi hi hpn (Ne.symm hpi)]; exact hps.2.2
        intro s' hS'
        refine hide fun H9 hH9 => ?_
        obtain ⟨h2, tk2, rs2, k2, rest2, T2, a2, b2, m2, hs5, F5, f1, f2, f3, f4, N5, hoff2, hA2, hRows2, hT2⟩ := hS'
        generalize (if p = i then Mi else swapM Mi i p) = M1 at *
        generalize (if p = i then ti else -ti) = t1 at *
        clear FF NN hRowsL hRows0 hT0 hoff0
        have F6 := fr_known4 F5 f1 f2 f3 f4
        clear F5
        have hbi : 6 * Bit k i + 1 ≤ 7000 := Nat.le_trans (Bit.mono k (show i + 1 ≤ n from hi)) hB
        have hrl2 : rs2.length = n := hRows2.1.trans hW1.1
        obtain ⟨q1, g1, lq1, eq1⟩ := hW1.row hi
        obtain ⟨v1, hv1, r1, kr1, cs1, rfl, hmr1, hcs1⟩ := hRows2.at g1
        have hcl : i < q1.length := by rw [lq1]; exact Nat.lt_of_lt_of_le hi hn
        obtain ⟨pa, tpa, upa, hca1, hma1⟩ := hcs1.at (List.getElem?_eq_getElem hcl)
        have ecell : cellM M1 i i = q1[i] := cellM_of g1 (List.getElem?_eq_getElem hcl)
        rw [ecell] at hne1
        have hx1 : rs2[((i : Nat) : Int).toNat]? = some (.ref r1) := by rw [Int.toNat_natCast]; exact hv1
        have hx2 : cs1[((i : Nat) : Int).toNat]? = some (.ref pa) := by rw [Int.toNat_natCast]; exact hca1
        have hqp : Qb (Bit k i) q1[i] := hB1.row g1 _ (List.getElem_mem hcl)
        refine hH9 ?_
        clear hH9 H9
        subst hs5
        repeat' ((fail_if_success (first | (with_reducible show JoinOut _ _ _) | (with_reducible show wpAny _ _ (setItem (Value.ref _) (Value.int _ _) _) _ _ _) | (with_reducible show wpAny _ _ (exec (Stmt.If (Expr.Compare (Expr.Name (Str.ofString "spot") _) [CmpOp.NotEq] _ _) _ _ _) _) _ _ _) | (with_reducible refine stop_ref ?_) | (with_reducible refine stop_lc ?_) | (with_reducible refine stop_alc ?_) | (with_reducible refine stop_zip ?_) | (with_reducible show IterE1 _ _ _ _ _ _ _ _ _ _ _ _ _ _ _) | (with_reducible show IterA1 _ _ _ _ _ _ _ _ _ _ _ _ _ _ _ _) | (with_reducible show CompOut _ _ _ _ _ _ _ _ _) | (with_reducible show IterF _ _ _ _ _ _ _ _ _ _ _) | (with_reducible show ForOut _ _ _ _ _ _ _ _ _))); first | (k_unfold; (try dsimp only)) | ((with_reducible show wpAny _ _ (call (Value.type "list") [Value.ref _]) _ _ _); k_dflt (refine list_copy_at (by k_asm) (by k_asm) (by k_mem) (by assumption) ?_); intro _ _ _ _ _ lR; (try k_lt lR)) | ((with_reducible refine item_shape ?_); k_dflt (refine item_at (hs := by with_unfolding_all rfl) (by k_asm) (by k_mem) (by assumption) (by first | (with_reducible exact Int.natCast_nonneg _) | (with_reducible assumption) | decide | lia) (by first | (with_reducible assumption) | decide | lia) ?_)) | ((with_reducible refine for_shape ?_); k_dflt (refine ForF (hs := by intro _; rfl) (by k_asm) (by rfl) (by rfl) (by with_unfolding_all passes_own) ?_)) | ((with_reducible show wpAny _ _ (call (Value.builtin "len") [Value.ref _]) _ _ _); k_dflt (refine kst_len (by k_asm) (by k_mem) (by first | assumption | rfl) (by lia) ?_)) | ((with_reducible refine floordiv_int ?kbe ?_ (Or.inl (PyProof.noPylong_of_log2 ?kbp))); (case kbe => first | assumption | lia); (case kbp => assumption)) | walk1 | (dsimp only; walk1) | (leave1; (try dsimp only)) | fail "no step")

        rename_i hP oP FP NP dP
        refine Tell.goQ (N := by k_asm) (B := by k_asm) (F := by k_asm) (X := by k_asm) (T := by k_asm) (hk := by first | exact rfl | assumption) (C := t_times _ _ _ _ _ _ _ _ _ _ _ _ _ _ _ (by k_mem) (by k_mem) (by assumption) (by assumption) (by lia)) (ret := ?_) (hd := by first | decide | exact room1 (by assumption) (by decide) | ktr_room) (hu := by first | decide | exact units1 (by assumption) (by decide) | ktr_units)
        intro xT tT uT hY tkY lT' FY NY
        (try dsimp only)
        (try k_fold)
        repeat' ((fail_if_success (first | (with_reducible show JoinOut _ _ _) | (with_reducible show wpAny _ _ (setItem (Value.ref _) (Value.int _ _) _) _ _ _) | (with_reducible show wpAny _ _ (exec (Stmt.If (Expr.Compare (Expr.Name (Str.ofString "spot") _) [CmpOp.NotEq] _ _) _ _ _) _) _ _ _) | (with_reducible refine stop_ref ?_) | (with_reducible refine stop_lc ?_) | (with_reducible refine stop_alc ?_) | (with_reducible refine stop_zip ?_) | (with_reducible show IterE1 _ _ _ _ _ _ _ _ _ _ _ _ _ _ _) | (with_reducible show IterA1 _ _ _ _ _ _ _ _ _ _ _ _ _ _ _ _) | (with_reducible show CompOut _ _ _ _ _ _ _ _ _) | (with_reducible show IterF _ _ _ _ _ _ _ _ _ _ _) | (with_reducible show ForOut _ _ _ _ _ _ _ _ _))); first | (k_unfold; (try dsimp only)) | ((with_reducible show wpAny _ _ (call (Value.type "list") [Value.ref _]) _ _ _); k_dflt (refine list_copy_at (by k_asm) (by k_asm) (by k_mem) (by assumption) ?_); intro _ _ _ _ _ lR; (try k_lt lR)) | ((with_reducible refine item_shape ?_); k_dflt (refine item_at (hs := by with_unfolding_all rfl) (by k_asm) (by k_mem) (by assumption) (by first | (with_reducible exact Int.natCast_nonneg _) | (with_reducible assumption) | decide | lia) (by first | (with_reducible assumption) | decide | lia) ?_)) | ((with_reducible refine for_shape ?_); k_dflt (refine ForF (hs := by intro _; rfl) (by k_asm) (by rfl) (by rfl) (by with_unfolding_all passes_own) ?_)) | ((with_reducible show wpAny _ _ (call (Value.builtin "len") [Value.ref _]) _ _ _); k_dflt (refine kst_len (by k_asm) (by k_mem) (by first | assumption | rfl) (by lia) ?_)) | ((with_reducible refine floordiv_int ?kbe ?_ (Or.inl (PyProof.noPylong_of_log2 ?kbp))); (case kbe => first | assumption | lia); (case kbp => assumption)) | walk1 | (dsimp only; walk1) | (leave1; (try dsimp only)) | fail "no step")
        rename_i hZ FZ NZ
        (first | walk1 | (dsimp only; walk1))
        k_dflt (refine ListComp1E (hs := by intro _; rfl) (by k_asm) (by with_unfolding_all rfl) (by decide) (by rfl) (by decide) (by rfl) ?_)
        repeat' ((fail_if_success (first | (with_reducible show JoinOut _ _ _) | (with_reducible show wpAny _ _ (setItem (Value.ref _) (Value.int _ _) _) _ _ _) | (with_reducible show wpAny _ _ (exec (Stmt.If (Expr.Compare (Expr.Name (Str.ofString "spot") _) [CmpOp.NotEq] _ _) _ _ _) _) _ _ _) | (with_reducible refine stop_ref ?_) | (with_reducible refine stop_lc ?_) | (with_reducible refine stop_alc ?_) | (with_reducible refine stop_zip ?_) | (with_reducible show IterE1 _ _ _ _ _ _ _ _ _ _ _ _ _ _ _) | (with_reducible show IterA1 _ _ _ _ _ _ _ _ _ _ _ _ _ _ _ _) | (with_reducible show CompOut _ _ _ _ _ _ _ _ _) | (with_reducible show IterF _ _ _ _ _ _ _ _ _ _ _) | (with_reducible show ForOut _ _ _ _ _ _ _ _ _))); first | (k_unfold; (try dsimp only)) | ((with_reducible show wpAny _ _ (call (Value.type "list") [Value.ref _]) _ _ _); k_dflt (refine list_copy_at (by k_asm) (by k_asm) (by k_mem) (by assumption) ?_); intro _ _ _ _ _ lR; (try k_lt lR)) | ((with_reducible refine item_shape ?_); k_dflt (refine item_at (hs := by with_unfolding_all rfl) (by k_asm) (by k_mem) (by assumption) (by first | (with_reducible exact Int.natCast_nonneg _) | (with_reducible assumption) | decide | lia) (by first | (with_reducible assumption) | decide | lia) ?_)) | ((with_reducible refine for_shape ?_); k_dflt (refine ForF (hs := by intro _; rfl) (by k_asm) (by rfl) (by rfl) (by with_unfolding_all passes_own) ?_)) | ((with_reducible show wpAny _ _ (call (Value.builtin "len") [Value.ref _]) _ _ _); k_dflt (refine kst_len (by k_asm) (by k_mem) (by first | assumption | rfl) (by lia) ?_)) | ((with_reducible refine floordiv_int ?kbe ?_ (Or.inl (PyProof.noPylong_of_log2 ?kbp))); (case kbe => first | assumption | lia); (case kbp => assumption)) | walk1 | (dsimp only; walk1) | (leave1; (try dsimp only)) | fail "no step")
        have hXT := lt_of_all lT'
        refine IterE1.list rfl FZ NZ (List.mem_cons_of_mem _ (List.mem_cons_of_mem _ (List.mem_cons_of_mem _ hmr1))) (by rw [List.size_toArray, hcs1.length, lq1, sizeLine_eq]; exact nn_c hwd) (NormJ _ q1 q1[i]) ⟨[], rfl, (fun _ h => nomatch h), by simpa using Cells.nil⟩ ?_ ?_
        · intro j v ys led₁ own C oC m₃ h tk E' hj hv hJ hC hns hxx FV NV
          refine hide fun H9 hH9 => ?_
          obtain ⟨tl, rfl, ht, hJ⟩ := hJ
          obtain ⟨a, p, t5, u5, rfl, hma, hpi⟩ := hcs1.get (by simpa using hv)
          have hp' := hB1.row g1 p (List.mem_of_getElem? hpi)
          --DEV[
          clear hps gp lp ep gi li ei hvp hrp hvi hri htn hx1 hx2 hsol hBi hWi hRows hT hoff hA hA2 hoff2 sep hown FZ NZ
          refine hH9 ?_
          clear hH9 H9
          repeat' ((fail_if_success (first | (with_reducible show JoinOut _ _ _) | (with_reducible show wpAny _ _ (setItem (Value.ref _) (Value.int _ _) _) _ _ _) | (with_reducible show wpAny _ _ (exec (Stmt.If (Expr.Compare (Expr.Name (Str.ofString "spot") _) [CmpOp.NotEq] _ _) _ _ _) _) _ _ _) | (with_reducible refine stop_ref ?_) | (with_reducible refine stop_lc ?_) | (with_reducible refine stop_alc ?_) | (with_reducible refine stop_zip ?_) | (with_reducible show IterE1 _ _ _ _ _ _ _ _ _ _ _ _ _ _ _) | (with_reducible show IterA1 _ _ _ _ _ _ _ _ _ _ _ _ _ _ _ _) | (with_reducible show CompOut _ _ _ _ _ _ _ _ _) | (with_reducible show IterF _ _ _ _ _ _ _ _ _ _ _) | (with_reducible show ForOut _ _ _ _ _ _ _ _ _))); first | (k_unfold; (try dsimp only)) | ((with_reducible show wpAny _ _ (call (Value.type "list") [Value.ref _]) _ _ _); k_dflt (refine list_copy_at (by k_asm) (by k_asm) (by k_mem) (by assumption) ?_); intro _ _ _ _ _ lR; (try k_lt lR)) | ((with_reducible refine item_shape ?_); k_dflt (refine item_at (hs := by with_unfolding_all rfl) (by k_asm) (by k_mem) (by assumption) (by first | (with_reducible exact Int.natCast_nonneg _) | (with_reducible assumption) | decide | lia) (by first | (with_reducible assumption) | decide | lia) ?_)) | ((with_reducible refine for_shape ?_); k_dflt (refine ForF (hs := by intro _; rfl) (by k_asm) (by rfl) (by rfl) (by with_unfolding_all passes_own) ?_)) | ((with_reducible show wpAny _ _ (call (Value.builtin "len") [Value.ref _]) _ _ _); k_dflt (refine kst_len (by k_asm) (by k_mem) (by first | assumption | rfl) (by lia) ?_)) | ((with_reducible refine floordiv_int ?kbe ?_ (Or.inl (PyProof.noPylong_of_log2 ?kbp))); (case kbe => first | assumption | lia); (case kbp => assumption)) | walk1 | (dsimp only; walk1) | (leave1; (try dsimp only)) | fail "no step")
          refine Tell.goQ (N := by k_asm) (B := by k_asm) (F := by k_asm) (X := by k_asm) (T := by k_asm) (hk := by first | exact rfl | assumption) (C := t_by _ _ _ _ _ _ _ _ _ _ _ _ _ _ _ (by k_mem) (by k_mem) (by assumption) (by assumption) (by lia) (by assumption)) (ret := ?_) (hd := by first | decide | exact room1 (by assumption) (by decide) | ktr_room) (hu := by first | decide | exact units1 (by assumption) (by decide) | ktr_units)
          intro x9 t9 u9 h9 tk9 l9 F9 N9
          (try dsimp only)
          (try k_fold)
          repeat' ((fail_if_success (first | (with_reducible show JoinOut _ _ _) | (with_reducible show wpAny _ _ (setItem (Value.ref _) (Value.int _ _) _) _ _ _) | (with_reducible show wpAny _ _ (exec (Stmt.If (Expr.Compare (Expr.Name (Str.ofString "spot") _) [CmpOp.NotEq] _ _) _ _ _) _) _ _ _) | (with_reducible refine stop_ref ?_) | (with_reducible refine stop_lc ?_) | (with_reducible refine stop_alc ?_) | (with_reducible refine stop_zip ?_) | (with_reducible show IterE1 _ _ _ _ _ _ _ _ _ _ _ _ _ _ _) | (with_reducible show IterA1 _ _ _ _ _ _ _ _ _ _ _ _ _ _ _ _) | (with_reducible show CompOut _ _ _ _ _ _ _ _ _) | (with_reducible show IterF _ _ _ _ _ _ _ _ _ _ _) | (with_reducible show ForOut _ _ _ _ _ _ _ _ _))); first | (k_unfold; (try dsimp only)) | ((with_reducible show wpAny _ _ (call (Value.type "list") [Value.ref _]) _ _ _); k_dflt (refine list_copy_at (by k_asm) (by k_asm) (by k_mem) (by assumption) ?_); intro _ _ _ _ _ lR; (try k_lt lR)) | ((with_reducible refine item_shape ?_); k_dflt (refine item_at (hs := by with_unfolding_all rfl) (by k_asm) (by k_mem) (by assumption) (by first | (with_reducible exact Int.natCast_nonneg _) | (with_reducible assumption) | decide | lia) (by first | (with_reducible assumption) | decide | lia) ?_)) | ((with_reducible refine for_shape ?_); k_dflt (refine ForF (hs := by intro _; rfl) (by k_asm) (by rfl) (by rfl) (by with_unfolding_all passes_own) ?_)) | ((with_reducible show wpAny _ _ (call (Value.builtin "len") [Value.ref _]) _ _ _); k_dflt (refine kst_len (by k_asm) (by k_mem) (by first | assumption | rfl) (by lia) ?_)) | ((with_reducible refine floordiv_int ?kbe ?_ (Or.inl (PyProof.noPylong_of_log2 ?kbp))); (case kbe => first | assumption | lia); (case kbp => assumption)) | walk1 | (dsimp only; walk1) | (leave1; (try dsimp only)) | fail "no step")
          refine compOut_one (by k_asm) (by k_asm) (fun p hp => hp) (by assumption) ⟨_ :: tl, rfl, fun p hp q hq => ?_, ?_⟩
          · rcases List.mem_cons.mp hp with rfl | hp
            · exact lt_of_all (by assumption) q (List.mem_append_right _ (List.mem_append_right _ hq))
            · exact ht p hp q hq
          · rw [take_map_succ hpi]
            exact (hJ.mono fun p hp => List.mem_cons_of_mem _ hp).snoc List.mem_cons_self
          --]DEV
        · intro D h tk zs led₁ FV NV hD hlt hlen hJ
          refine hide fun H9 hH9 => ?_
          obtain ⟨tl, rfl, ht, hJ⟩ := hJ
          refine hH9 ?_
          clear hH9 H9
          rw [show cs1.toArray.size = q1.length by rw [List.size_toArray, hcs1.length], List.take_length] at hJ
          clear FZ NZ
          repeat' ((fail_if_success (first | (with_reducible show JoinOut _ _ _) | (with_reducible show wpAny _ _ (setItem (Value.ref _) (Value.int _ _) _) _ _ _) | (with_reducible show wpAny _ _ (exec (Stmt.If (Expr.Compare (Expr.Name (Str.ofString "spot") _) [CmpOp.NotEq] _ _) _ _ _) _) _ _ _) | (with_reducible refine stop_ref ?_) | (with_reducible refine stop_lc ?_) | (with_reducible refine stop_alc ?_) | (with_reducible refine stop_zip ?_) | (with_reducible show IterE1 _ _ _ _ _ _ _ _ _ _ _ _ _ _ _) | (with_reducible show IterA1 _ _ _ _ _ _ _ _ _ _ _ _ _ _ _ _) | (with_reducible show CompOut _ _ _ _ _ _ _ _ _) | (with_reducible show IterF _ _ _ _ _ _ _ _ _ _ _) | (with_reducible show ForOut _ _ _ _ _ _ _ _ _))); first | (k_unfold; (try dsimp only)) | ((with_reducible show wpAny _ _ (call (Value.type "list") [Value.ref _]) _ _ _); k_dflt (refine list_copy_at (by k_asm) (by k_asm) (by k_mem) (by assumption) ?_); intro _ _ _ _ _ lR; (try k_lt lR)) | ((with_reducible refine item_shape ?_); k_dflt (refine item_at (hs := by with_unfolding_all rfl) (by k_asm) (by k_mem) (by assumption) (by first | (with_reducible exact Int.natCast_nonneg _) | (with_reducible assumption) | decide | lia) (by first | (with_reducible assumption) | decide | lia) ?_)) | ((with_reducible refine for_shape ?_); k_dflt (refine ForF (hs := by intro _; rfl) (by k_asm) (by rfl) (by rfl) (by with_unfolding_all passes_own) ?_)) | ((with_reducible show wpAny _ _ (call (Value.builtin "len") [Value.ref _]) _ _ _); k_dflt (refine kst_len (by k_asm) (by k_mem) (by first | assumption | rfl) (by lia) ?_)) | ((with_reducible refine floordiv_int ?kbe ?_ (Or.inl (PyProof.noPylong_of_log2 ?kbp))); (case kbe => first | assumption | lia); (case kbp => assumption)) | walk1 | (dsimp only; walk1) | (leave1; (try dsimp only)) | fail "no step")
          have hoff3 : OwnOff ((D, LCg.lst zs) :: (tl ++ (xT, { cls := .type "tuple", data := .seq #[.int (t1 * q1[i]).num tT, .int ((t1 * q1[i]).den : Nat) uT] }) :: rest2)) [R', L' + 1] := by
            refine mem_own2 (fun p hp => ?_) (fun p hp => ?_)
            · rcases List.mem_cons.mp hp with rfl | hp
              · exact Ne.symm (Nat.ne_of_lt (hlt _ (List.mem_cons_of_mem _ List.mem_cons_self)))
              · rcases List.mem_append.mp hp with hp | hp
                · exact Ne.symm (Nat.ne_of_lt (ht p hp _ (List.mem_cons_of_mem _ List.mem_cons_self)))
                · rcases List.mem_cons.mp hp with rfl | hp
                  · exact Ne.symm (Nat.ne_of_lt (hXT _ List.mem_cons_self))
                  · exact hoff2 p hp _ List.mem_cons_self
            · rcases List.mem_cons.mp hp with rfl | hp
              · exact Ne.symm (Nat.ne_of_lt (hlt _ (List.mem_cons_of_mem _ (List.mem_cons_of_mem _ List.mem_cons_self))))
              · rcases List.mem_append.mp hp with hp | hp
                · exact Ne.symm (Nat.ne_of_lt (ht p hp _ (List.mem_cons_of_mem _ (List.mem_cons_of_mem _ List.mem_cons_self))))
                · rcases List.mem_cons.mp hp with rfl | hp
                  · exact Ne.symm (Nat.ne_of_lt (hXT _ (List.mem_cons_of_mem _ List.mem_cons_self)))
                  · exact hoff2 p hp _ (List.mem_cons_of_mem _ List.mem_cons_self)
          have hA3 : Above rest0 ((D, LCg.lst zs) :: (tl ++ (xT, { cls := .type "tuple", data := .seq #[.int (t1 * q1[i]).num tT, .int ((t1 * q1[i]).den : Nat) uT] }) :: rest2)) := by
            refine Above.cons ((hA2.cons (x := xT) fun q hq => hXT q ?_).trans (Above.app fun p hp q hq => ht p hp q ?_)) (fun q hq => hlt q ?_)
            · exact List.mem_cons_of_mem _ (List.mem_cons_of_mem _ (hA2.1 q hq))
            · rcases List.mem_cons.mp hq with rfl | hq
              · exact List.mem_cons_self
              · exact List.mem_cons_of_mem _ (List.mem_cons_of_mem _ (List.mem_cons_of_mem _ hq))
            · exact List.mem_cons_of_mem _ (List.mem_cons_of_mem _ (List.mem_cons_of_mem _ (hA2.1 q hq)))
          have hRows3 : Rows ((D, LCg.lst zs) :: (tl ++ (xT, { cls := .type "tuple", data := .seq #[.int (t1 * q1[i]).num tT, .int ((t1 * q1[i]).den : Nat) uT] }) :: rest2)) (rs2.set i (.ref D)) (normM i M1) := by
            unfold normM
            rw [eq1, ecell]
            exact (hRows2.mono fun p hp => List.mem_cons_of_mem _ (List.mem_append_right _ (List.mem_cons_of_mem _ hp))).set ⟨D, _, zs, rfl, List.mem_cons_self, hJ.mono fun p hp => List.mem_cons_of_mem _ (List.mem_append_left _ hp)⟩
          have hT3 : (xT, ({ cls := .type "tuple", data := .seq #[.int (t1 * q1[i]).num tT, .int ((t1 * q1[i]).den : Nat) uT] } : Obj)) ∈ ((D, LCg.lst zs) :: (tl ++ (xT, { cls := .type "tuple", data := .seq #[.int (t1 * q1[i]).num tT, .int ((t1 * q1[i]).den : Nat) uT] }) :: rest2)) := List.mem_cons_of_mem _ (List.mem_append_right _ List.mem_cons_self)
          refine set_at ((L' + 1, oP) :: (D, LCg.lst zs) :: (tl ++ (xT, { cls := .type "tuple", data := .seq #[.int (t1 * q1[i]).num tT, .int ((t1 * q1[i]).den : Nat) uT] }) :: rest2)) FV NV (l := R') (vs := rs2) (c := k2) ?_ (by first | (with_reducible exact Int.natCast_nonneg _) | lia) (by lia) (by first | (with_reducible assumption) | lia) (fun p hp => ⟨?_, ?_⟩) ?_
          · exact List.mem_cons_of_mem _ (List.mem_append_right _ (List.mem_cons_of_mem _ List.mem_cons_self))
          · simp only [List.mem_cons, List.mem_append] at hp ⊢
            rcases hp with h | h | h | h | h
            · exact .inr (.inr (.inr (.inr (.inl h))))
            · exact .inl h
            · exact .inr (.inl h)
            · exact .inr (.inr (.inl h))
            · exact .inr (.inr (.inr (.inr (.inr h))))
          · rcases List.mem_cons.mp hp with rfl | hp
            · exact Nat.ne_of_lt hCR
            · exact hoff3 p hp _ List.mem_cons_self
          generalize ((D, LCg.lst zs) :: (tl ++ (xT, { cls := .type "tuple", data := .seq #[.int (t1 * q1[i]).num tT, .int ((t1 * q1[i]).den : Nat) uT] }) :: rest2) : List (Addr × Obj)) = rest3 at *
          clear NV hlt hD ht hJ hXT lT' hRows2 hmr1 hcs1 hma1 hT2 hA2 hoff2 hx1 hx2
          intro c5 h5 F7 N7
          rw [Int.toNat_natCast] at N7
          clear FV
          repeat' ((fail_if_success (first | (with_reducible show JoinOut _ _ _) | (with_reducible show wpAny _ _ (setItem (Value.ref _) (Value.int _ _) _) _ _ _) | (with_reducible show wpAny _ _ (exec (Stmt.If (Expr.Compare (Expr.Name (Str.ofString "spot") _) [CmpOp.NotEq] _ _) _ _ _) _) _ _ _) | (with_reducible refine stop_ref ?_) | (with_reducible refine stop_lc ?_) | (with_reducible refine stop_alc ?_) | (with_reducible refine stop_zip ?_) | (with_reducible show IterE1 _ _ _ _ _ _ _ _ _ _ _ _ _ _ _) | (with_reducible show IterA1 _ _ _ _ _ _ _ _ _ _ _ _ _ _ _ _) | (with_reducible show CompOut _ _ _ _ _ _ _ _ _) | (with_reducible show IterF _ _ _ _ _ _ _ _ _ _ _) | (with_reducible show ForOut _ _ _ _ _ _ _ _ _))); first | (k_unfold; (try dsimp only)) | ((with_reducible show wpAny _ _ (call (Value.type "list") [Value.ref _]) _ _ _); k_dflt (refine list_copy_at (by k_asm) (by k_asm) (by k_mem) (by assumption) ?_); intro _ _ _ _ _ lR; (try k_lt lR)) | ((with_reducible refine item_shape ?_); k_dflt (refine item_at (hs := by with_unfolding_all rfl) (by k_asm) (by k_mem) (by assumption) (by first | (with_reducible exact Int.natCast_nonneg _) | (with_reducible assumption) | decide | lia) (by first | (with_reducible assumption) | decide | lia) ?_)) | ((with_reducible refine for_shape ?_); k_dflt (refine ForF (hs := by intro _; rfl) (by k_asm) (by rfl) (by rfl) (by with_unfolding_all passes_own) ?_)) | ((with_reducible show wpAny _ _ (call (Value.builtin "len") [Value.ref _]) _ _ _); k_dflt (refine kst_len (by k_asm) (by k_mem) (by first | assumption | rfl) (by lia) ?_)) | ((with_reducible refine floordiv_int ?kbe ?_ (Or.inl (PyProof.noPylong_of_log2 ?kbp))); (case kbe => first | assumption | lia); (case kbp => assumption)) | walk1 | (dsimp only; walk1) | (leave1; (try dsimp only)) | fail "no step")
          rename_i FW NW hV tkV t7 u7 v7 hr2 F8 N8 hk8
          clear FW NW hk8
          obtain ⟨hsm2, hn2⟩ := small_of (a := 0) (b := n) (n := n) (Int.le_refl _) (nn_d hn hwd) (Int.sub_zero _).symm
          have hWn := normM_wide hW1 hi
          have hBn := normM_bits hW1 hB1 hi (show i < wd from Nat.lt_of_lt_of_le hi hn)
          have hb3 : 3 * (Bit k i + Bit k i) ≤ 7000 := nn_e hbi
          refine IterF.hideQ fun Q8 hQ8 => ?_
          refine IterF.range rfl F8 N8 hr2 hsm2 hn2 (ClearedJ rest0 R' (L' + 1) n i (normM i M1) (t1 * q1[i]) t)
            ⟨⟨rest3, _, c5, oP, _, xT, tT, uT, ts, rfl, dP, hoff3, hA3, hRows3, hT3, by with_unfolding_all rfl, by with_unfolding_all rfl, by with_unfolding_all rfl⟩, by with_unfolding_all rfl⟩ ?_ ?_
          · clear F8 N8 hr2 hRows3 hT3 hoff3 hA3
            intro j tj m₃ led₁ own3 h tk hj hJ sep3 hown3 F9 N9
            refine hide fun H9 hH9 => ?_
            obtain ⟨hInv, d4⟩ := hJ
            refine hInv.elim fun rest4 rs4 k4 oc4 vc4 T4 a4 b4 ts4 hled4 hcd4 hoff4 hA4 hRows4 hT4 d1 d2 d3 => ?_
            clear hInv
            rw [hled4] at N9 sep3
            simp only [Int.zero_add] at F9
            have F10 := fr_known4 F9 (a := Str.ofString "rows") (b := Str.ofString "told") (c := Str.ofString "size") (d := Str.ofString "at") (by rw [if_neg (by decide)]; exact d1) (by rw [if_neg (by decide)]; exact d2) (by rw [if_neg (by decide)]; exact d3) (by rw [if_neg (by decide)]; exact d4)
            have N10 : News g' L' h ((R', { cls := .type "list", data := .seq rs4.toArray k4 }) :: (L' + 1, oc4) :: (rest4 ++ own3)) := News.drop N9 fun p hp => by
              simp only [List.mem_cons, List.mem_append] at hp ⊢
              rcases hp with h | h | h | h
              · exact .inr (.inl h)
              · exact .inr (.inr (.inl h))
              · exact .inr (.inr (.inr h))
              · exact .inl h
            have hoff5 : OwnOff (rest4 ++ own3) [R', L' + 1] := Mine.OwnOff.app hoff4 (mem_own2 (fun p hp e => sep3 _ List.mem_cons_self p hp e.symm) (fun p hp e => sep3 _ (List.mem_cons_of_mem _ List.mem_cons_self) p hp e.symm))
            have hWj := clearTo_wide hWn hi (Nat.le_of_lt hj)
            obtain ⟨qj, gj, lj, ej⟩ := hWj.row hj
            obtain ⟨qa, ga, la, ea⟩ := hWj.row hi
            have bj : Qbs (Bit k i + Bit k i) qj := hBn.row ((clearTo_off (.inl (Nat.le_refl j))).symm.trans gj)
            have ba : Qbs (Bit k i + Bit k i) qa := hBn.row ((clearTo_off (.inr rfl)).symm.trans ga)
            have hclj : i < qj.length := by rw [lj]; exact Nat.lt_of_lt_of_le hi hn
            have ecj : cellM (clearTo i (normM i M1) j) j i = qj[i] := cellM_of gj (List.getElem?_eq_getElem hclj)
            have bf : Qb (Bit k i + Bit k i) qj[i] := bj _ (List.getElem_mem hclj)
            have hone : clearTo i (normM i M1) (j + 1) = clearOne i (clearTo i (normM i M1) j) j := rfl
            have hfit2 := fit_lt hj hn63
            clear F9 N9
            generalize clearTo i (normM i M1) j = Mj at *
            generalize hr1 : rest4 ++ own3 = rest5 at N10 hoff5
            have hRows5 : Rows rest5 rs4 Mj := by rw [← hr1]; exact hRows4.mono fun p hp => List.mem_append_left _ hp
            have hT5 : (T4, ({ cls := .type "tuple", data := .seq #[.int (t1 * q1[i]).num a4, .int ((t1 * q1[i]).den : Nat) b4] } : Obj)) ∈ rest5 := by rw [← hr1]; exact List.mem_append_left _ hT4
            have hA5 : Above (rest4 ++ own3) rest5 := by rw [hr1]; exact Above.refl _
            obtain ⟨v8, hvj, rj, krj, csj, rfl, hmrj, hcsj⟩ := hRows5.at gj
            obtain ⟨v9, hva, ra, kra, csa, rfl, hmra, hcsa⟩ := hRows5.at ga
            obtain ⟨pc, tpc, upc, hcj, hmc⟩ := hcsj.at (List.getElem?_eq_getElem hclj)
            have hy1 : rs4[((j : Nat) : Int).toNat]? = some (.ref rj) := by rw [Int.toNat_natCast]; exact hvj
            have hy2 : rs4[((i : Nat) : Int).toNat]? = some (.ref ra) := by rw [Int.toNat_natCast]; exact hva
            have hy3 : csj[((i : Nat) : Int).toNat]? = some (.ref pc) := by rw [Int.toNat_natCast]; exact hcj
            have hrl4 : rs4.length = n := hRows5.1.trans hWj.1
            have hcl4 : csj.length = qj.length := hcsj.length
            have hcl5 : csa.length = qa.length := hcsa.length
            have hsz4 : csj.length ≤ sizeLine := by rw [sizeLine_eq, hcl4, lj]; exact nn_c hwd
            have hLx : Cells ((R', { cls := .type "list", data := .seq rs4.toArray k4 }) :: (L' + 1, oc4) :: rest5) csj qj := hcsj.mono fun p hp => List.mem_cons_of_mem _ (List.mem_cons_of_mem _ hp)
            have hLy : Cells ((R', { cls := .type "list", data := .seq rs4.toArray k4 }) :: (L' + 1, oc4) :: rest5) csa qa := hcsa.mono fun p hp => List.mem_cons_of_mem _ (List.mem_cons_of_mem _ hp)
            clear hRows4 hT4 hoff4 hsol hBi hWi hRows hT hoff hn' hsm hsm2 hn2
            refine hH9 ?_
            clear hH9 H9
            subst hled4
            repeat' ((fail_if_success (first | (with_reducible show JoinOut _ _ _) | (with_reducible show wpAny _ _ (setItem (Value.ref _) (Value.int _ _) _) _ _ _) | (with_reducible show wpAny _ _ (exec (Stmt.If (Expr.Compare (Expr.Name (Str.ofString "spot") _) [CmpOp.NotEq] _ _) _ _ _) _) _ _ _) | (with_reducible refine stop_ref ?_) | (with_reducible refine stop_lc ?_) | (with_reducible refine stop_alc ?_) | (with_reducible refine stop_zip ?_) | (with_reducible show IterE1 _ _ _ _ _ _ _ _ _ _ _ _ _ _ _) | (with_reducible show IterA1 _ _ _ _ _ _ _ _ _ _ _ _ _ _ _ _) | (with_reducible show CompOut _ _ _ _ _ _ _ _ _) | (with_reducible show IterF _ _ _ _ _ _ _ _ _ _ _) | (with_reducible show ForOut _ _ _ _ _ _ _ _ _))); first | (k_unfold; (try dsimp only)) | ((with_reducible show wpAny _ _ (call (Value.type "list") [Value.ref _]) _ _ _); k_dflt (refine list_copy_at (by k_asm) (by k_asm) (by k_mem) (by assumption) ?_); intro _ _ _ _ _ lR; (try k_lt lR)) | ((with_reducible refine item_shape ?_); k_dflt (refine item_at (hs := by with_unfolding_all rfl) (by k_asm) (by k_mem) (by assumption) (by first | (with_reducible exact Int.natCast_nonneg _) | (with_reducible assumption) | decide | lia) (by first | (with_reducible assumption) | decide | lia) ?_)) | ((with_reducible refine for_shape ?_); k_dflt (refine ForF (hs := by intro _; rfl) (by k_asm) (by rfl) (by rfl) (by with_unfolding_all passes_own) ?_)) | ((with_reducible show wpAny _ _ (call (Value.builtin "len") [Value.ref _]) _ _ _); k_dflt (refine kst_len (by k_asm) (by k_mem) (by first | assumption | rfl) (by lia) ?_)) | ((with_reducible refine floordiv_int ?kbe ?_ (Or.inl (PyProof.noPylong_of_log2 ?kbp))); (case kbe => first | assumption | lia); (case kbp => assumption)) | walk1 | (dsimp only; walk1) | (leave1; (try dsimp only)) | fail "no step")
            · rename_i hji hnz
              refine Tell.goR (N := by k_asm) (B := by k_asm) (F := by k_asm) (X := by k_asm) (T := by k_asm) (hk := by first | exact rfl | assumption) (C := t_cleared w mean mg mb _ qj qa qj[i] rj ra pc krj kra csj csa tpc upc (Bit k i + Bit k i) (by k_mem) (by k_mem) (by k_mem) hLx hLy bj ba bf hb3 hsz4) (ret := ?_) (hd := by first | decide | exact room1 (by assumption) (by decide) | ktr_room) (hu := by first | decide | exact units1 (by assumption) (by decide) | ktr_units)
              intro tl9 r9' k9 cs9 h9 tk9 ht9 hm9 hc9 F9 N9
              dsimp only
              repeat' ((fail_if_success (first | (with_reducible show JoinOut _ _ _) | (with_reducible show wpAny _ _ (setItem (Value.ref _) (Value.int _ _) _) _ _ _) | (with_reducible show wpAny _ _ (exec (Stmt.If (Expr.Compare (Expr.Name (Str.ofString "spot") _) [CmpOp.NotEq] _ _) _ _ _) _) _ _ _) | (with_reducible refine stop_ref ?_) | (with_reducible refine stop_lc ?_) | (with_reducible refine stop_alc ?_) | (with_reducible refine stop_zip ?_) | (with_reducible show IterE1 _ _ _ _ _ _ _ _ _ _ _ _ _ _ _) | (with_reducible show IterA1 _ _ _ _ _ _ _ _ _ _ _ _ _ _ _ _) | (with_reducible show CompOut _ _ _ _ _ _ _ _ _) | (with_reducible show IterF _ _ _ _ _ _ _ _ _ _ _) | (with_reducible show ForOut _ _ _ _ _ _ _ _ _))); first | (k_unfold; (try dsimp only)) | ((with_reducible show wpAny _ _ (call (Value.type "list") [Value.ref _]) _ _ _); k_dflt (refine list_copy_at (by k_asm) (by k_asm) (by k_mem) (by assumption) ?_); intro _ _ _ _ _ lR; (try k_lt lR)) | ((with_reducible refine item_shape ?_); k_dflt (refine item_at (hs := by with_unfolding_all rfl) (by k_asm) (by k_mem) (by assumption) (by first | (with_reducible exact Int.natCast_nonneg _) | (with_reducible assumption) | decide | lia) (by first | (with_reducible assumption) | decide | lia) ?_)) | ((with_reducible refine for_shape ?_); k_dflt (refine ForF (hs := by intro _; rfl) (by k_asm) (by rfl) (by rfl) (by with_unfolding_all passes_own) ?_)) | ((with_reducible show wpAny _ _ (call (Value.builtin "len") [Value.ref _]) _ _ _); k_dflt (refine kst_len (by k_asm) (by k_mem) (by first | assumption | rfl) (by lia) ?_)) | ((with_reducible refine floordiv_int ?kbe ?_ (Or.inl (PyProof.noPylong_of_log2 ?kbp))); (case kbe => first | assumption | lia); (case kbp => assumption)) | walk1 | (dsimp only; walk1) | (leave1; (try dsimp only)) | fail "no step")
              have hoff9 : OwnOff tl9 [R', L' + 1] := mem_own2 (fun p hp => Ne.symm (Nat.ne_of_lt (ht9 p hp _ List.mem_cons_self))) (fun p hp => Ne.symm (Nat.ne_of_lt (ht9 p hp _ (List.mem_cons_of_mem _ List.mem_cons_self))))
              refine set_at ((L' + 1, oc4) :: (tl9 ++ rest5)) F9 N9 (l := R') (vs := rs4) (c := k4) (List.mem_append_right _ List.mem_cons_self) (by first | (with_reducible exact Int.natCast_nonneg _) | lia) (by lia) (by first | (with_reducible assumption) | lia) (fun p hp => ⟨?_, ?_⟩) ?_
              · simp only [List.mem_cons, List.mem_append] at hp ⊢
                rcases hp with h | h | h
                · exact .inr (.inr (.inl h))
                · exact .inl h
                · exact .inr (.inr (.inr h))
              · rcases List.mem_cons.mp hp with rfl | hp
                · exact Nat.ne_of_lt hCR
                · rcases List.mem_append.mp hp with hp | hp
                  · exact hoff9 p hp _ List.mem_cons_self
                  · exact hoff5 p hp _ List.mem_cons_self
              intro c10 h10 F11 N11
              rw [Int.toNat_natCast] at N11
              repeat' ((fail_if_success (first | (with_reducible show JoinOut _ _ _) | (with_reducible show wpAny _ _ (setItem (Value.ref _) (Value.int _ _) _) _ _ _) | (with_reducible show wpAny _ _ (exec (Stmt.If (Expr.Compare (Expr.Name (Str.ofString "spot") _) [CmpOp.NotEq] _ _) _ _ _) _) _ _ _) | (with_reducible refine stop_ref ?_) | (with_reducible refine stop_lc ?_) | (with_reducible refine stop_alc ?_) | (with_reducible refine stop_zip ?_) | (with_reducible show IterE1 _ _ _ _ _ _ _ _ _ _ _ _ _ _ _) | (with_reducible show IterA1 _ _ _ _ _ _ _ _ _ _ _ _ _ _ _ _) | (with_reducible show CompOut _ _ _ _ _ _ _ _ _) | (with_reducible show IterF _ _ _ _ _ _ _ _ _ _ _) | (with_reducible show ForOut _ _ _ _ _ _ _ _ _))); first | (k_unfold; (try dsimp only)) | ((with_reducible show wpAny _ _ (call (Value.type "list") [Value.ref _]) _ _ _); k_dflt (refine list_copy_at (by k_asm) (by k_asm) (by k_mem) (by assumption) ?_); intro _ _ _ _ _ lR; (try k_lt lR)) | ((with_reducible refine item_shape ?_); k_dflt (refine item_at (hs := by with_unfolding_all rfl) (by k_asm) (by k_mem) (by assumption) (by first | (with_reducible exact Int.natCast_nonneg _) | (with_reducible assumption) | decide | lia) (by first | (with_reducible assumption) | decide | lia) ?_)) | ((with_reducible refine for_shape ?_); k_dflt (refine ForF (hs := by intro _; rfl) (by k_asm) (by rfl) (by rfl) (by with_unfolding_all passes_own) ?_)) | ((with_reducible show wpAny _ _ (call (Value.builtin "len") [Value.ref _]) _ _ _); k_dflt (refine kst_len (by k_asm) (by k_mem) (by first | assumption | rfl) (by lia) ?_)) | ((with_reducible refine floordiv_int ?kbe ?_ (Or.inl (PyProof.noPylong_of_log2 ?kbp))); (case kbe => first | assumption | lia); (case kbp => assumption)) | walk1 | (dsimp only; walk1) | (leave1; (try dsimp only)) | fail "no step")
              refine Inv.close (led := rest0) (rest := rest4) (own := own3) (rest9 := tl9 ++ rest5) (M' := Mj.set j (List.zipWith (fun p q => p - qj[i] * q) qj qa)) ⟨_, List.mem_cons_self⟩ ⟨_, List.mem_cons_of_mem _ List.mem_cons_self⟩ (fun p hp => List.mem_cons_of_mem _ (List.mem_cons_of_mem _ hp)) hA4 sep3 hown3 (by k_asm) N11 hcd4 (Mine.OwnOff.app hoff9 hoff5) (hA5.trans (Above.app fun p hp q hq => ht9 p hp q (List.mem_cons_of_mem _ (List.mem_cons_of_mem _ hq))))
                ((hRows5.mono fun p hp => List.mem_append_right _ hp).set ⟨r9', k9, cs9, rfl, List.mem_append_left _ hm9, hc9.mono fun p hp => List.mem_append_left _ hp⟩) (List.mem_append_right _ hT5) (by with_unfolding_all rfl) (by with_unfolding_all rfl) (by with_unfolding_all rfl) (fun led₂ hI => ⟨?_, by with_unfolding_all rfl⟩)
              have hcl : clearOne i Mj j = Mj.set j (List.zipWith (fun p q => p - qj[i] * q) qj qa) := by
                unfold clearOne
                rw [if_pos ⟨by lia, by rw [ecj]; exact fun e => hnz (Rat.num_eq_zero.mpr e)⟩, ej, ea, ecj]
              rw [hone, hcl]
              exact hI
            · rename_i hji hnz
              refine Inv.close (led := rest0) (rest := rest4) (own := own3) (rest9 := rest5) (M' := Mj) ⟨_, List.mem_cons_self⟩ ⟨_, List.mem_cons_of_mem _ List.mem_cons_self⟩ (fun p hp => List.mem_cons_of_mem _ (List.mem_cons_of_mem _ hp)) hA4 sep3 hown3 (by k_asm) N10 hcd4 hoff5 hA5 hRows5 hT5 (by with_unfolding_all rfl) (by with_unfolding_all rfl) (by with_unfolding_all rfl) (fun led₂ hI => ⟨?_, by with_unfolding_all rfl⟩)
              rw [hone, show clearOne i Mj j = Mj from if_neg (fun h => h.2 (by rw [ecj]; exact Rat.num_eq_zero.mp hnz))]
              exact hI
            · rename_i hji
              refine Inv.close (led := rest0) (rest := rest4) (own := own3) (rest9 := rest5) (M' := Mj) ⟨_, List.mem_cons_self⟩ ⟨_, List.mem_cons_of_mem _ List.mem_cons_self⟩ (fun p hp => List.mem_cons_of_mem _ (List.mem_cons_of_mem _ hp)) hA4 sep3 hown3 (by k_asm) N10 hcd4 hoff5 hA5 hRows5 hT5 (by with_unfolding_all rfl) (by with_unfolding_all rfl) (by with_unfolding_all rfl) (fun led₂ hI => ⟨?_, by with_unfolding_all rfl⟩)
              rw [hone, show clearOne i Mj j = Mj from if_neg (fun h => h.1 (by lia))]
              exact hI
          · intro h tk m₃ led₁ hJ F9 N9
            refine hide fun H9 hH9 => ?_
            obtain ⟨hInv, d4⟩ := hJ
            refine hInv.elim fun rest4 rs4 k4 oc4 vc4 T4 a4 b4 ts4 hled4 hcd4 hoff4 hA4 hRows4 hT4 d1 d2 d3 => ?_
            clear hInv
            subst hled4
            rw [ecell] at htn
            have hts := turnM_some hWi hBi hti hi (show i < wd from Nat.lt_of_lt_of_le hi hn) htn
            clear F8 N8 hr2
            refine hH9 ?_
            clear hH9 H9
            refine hQ8 _ _ ?_
            (try dsimp only)
            repeat' ((fail_if_success (first | (with_reducible show JoinOut _ _ _) | (with_reducible show wpAny _ _ (setItem (Value.ref _) (Value.int _ _) _) _ _ _) | (with_reducible show wpAny _ _ (exec (Stmt.If (Expr.Compare (Expr.Name (Str.ofString "spot") _) [CmpOp.NotEq] _ _) _ _ _) _) _ _ _) | (with_reducible refine stop_ref ?_) | (with_reducible refine stop_lc ?_) | (with_reducible refine stop_alc ?_) | (with_reducible refine stop_zip ?_) | (with_reducible show IterE1 _ _ _ _ _ _ _ _ _ _ _ _ _ _ _) | (with_reducible show IterA1 _ _ _ _ _ _ _ _ _ _ _ _ _ _ _ _) | (with_reducible show CompOut _ _ _ _ _ _ _ _ _) | (with_reducible show IterF _ _ _ _ _ _ _ _ _ _ _) | (with_reducible show ForOut _ _ _ _ _ _ _ _ _))); first | (k_unfold; (try dsimp only)) | ((with_reducible show wpAny _ _ (call (Value.type "list") [Value.ref _]) _ _ _); k_dflt (refine list_copy_at (by k_asm) (by k_asm) (by k_mem) (by assumption) ?_); intro _ _ _ _ _ lR; (try k_lt lR)) | ((with_reducible refine item_shape ?_); k_dflt (refine item_at (hs := by with_unfolding_all rfl) (by k_asm) (by k_mem) (by assumption) (by first | (with_reducible exact Int.natCast_nonneg _) | (with_reducible assumption) | decide | lia) (by first | (with_reducible assumption) | decide | lia) ?_)) | ((with_reducible refine for_shape ?_); k_dflt (refine ForF (hs := by intro _; rfl) (by k_asm) (by rfl) (by rfl) (by with_unfolding_all passes_own) ?_)) | ((with_reducible show wpAny _ _ (call (Value.builtin "len") [Value.ref _]) _ _ _); k_dflt (refine kst_len (by k_asm) (by k_mem) (by first | assumption | rfl) (by lia) ?_)) | ((with_reducible refine floordiv_int ?kbe ?_ (Or.inl (PyProof.noPylong_of_log2 ?kbp))); (case kbe => first | assumption | lia); (case kbp => assumption)) | walk1 | (dsimp only; walk1) | (leave1; (try dsimp only)) | fail "no step")
            refine Inv.close (led := led) (rest := rest) (own := own) (rest9 := rest4) (M' := clearTo i (normM i M1) n) (t' := t1 * q1[i]) ⟨_, List.mem_cons_self⟩ ⟨_, List.mem_cons_of_mem _ List.mem_cons_self⟩ (fun p hp => List.mem_cons_of_mem _ (List.mem_cons_of_mem _ hp)) hA sep hown F9 N9 hcd4 hoff4 (by rw [hr0]; exact hA4) hRows4 hT4 d1 d2 d3 (fun led₂ hI => ⟨_, _, hI, hts.1, hts.2.1, hts.2.2, (solveM_next hi htn).symm.trans hsol⟩)
  · intro h tk m₁ led₁ hJ F1 N1
    refine hide fun H9 hH9 => ?_
    obtain ⟨Mi, ti, hInv, hWi, hBi, hti, hsol⟩ := hJ
    refine hInv.elim fun rest rs1 k1 oc1 vc T ta tb ts hled hcd hoff hA hRows hT e1 e2 e3 => ?_
    clear hInv
    subst hled
    rw [Nat.sub_self] at hsol
    have F2 := fr_known (fr_known F1 e2) (x := Str.ofString "rows") (v := .ref R') (by rw [if_neg (by decide)]; exact e1)
    clear F1 F0 N0 hr
    refine hH9 ?_
    clear hH9 H9
    refine hQ9 _ _ ?_
    (try dsimp only)
    repeat' ((fail_if_success (first | (with_reducible show JoinOut _ _ _) | (with_reducible show wpAny _ _ (setItem (Value.ref _) (Value.int _ _) _) _ _ _) | (with_reducible show wpAny _ _ (exec (Stmt.If (Expr.Compare (Expr.Name (Str.ofString "spot") _) [CmpOp.NotEq] _ _) _ _ _) _) _ _ _) | (with_reducible refine stop_ref ?_) | (with_reducible refine stop_lc ?_) | (with_reducible refine stop_alc ?_) | (with_reducible refine stop_zip ?_) | (with_reducible show IterE1 _ _ _ _ _ _ _ _ _ _ _ _ _ _ _) | (with_reducible show IterA1 _ _ _ _ _ _ _ _ _ _ _ _ _ _ _ _) | (with_reducible show CompOut _ _ _ _ _ _ _ _ _) | (with_reducible show IterF _ _ _ _ _ _ _ _ _ _ _) | (with_reducible show ForOut _ _ _ _ _ _ _ _ _))); first | (k_unfold; (try dsimp only)) | ((with_reducible show wpAny _ _ (call (Value.type "list") [Value.ref _]) _ _ _); k_dflt (refine list_copy_at (by k_asm) (by k_asm) (by k_mem) (by assumption) ?_); intro _ _ _ _ _ lR; (try k_lt lR)) | ((with_reducible refine item_shape ?_); k_dflt (refine item_at (hs := by with_unfolding_all rfl) (by k_asm) (by k_mem) (by assumption) (by first | (with_reducible exact Int.natCast_nonneg _) | (with_reducible assumption) | decide | lia) (by first | (with_reducible assumption) | decide | lia) ?_)) | ((with_reducible refine for_shape ?_); k_dflt (refine ForF (hs := by intro _; rfl) (by k_asm) (by rfl) (by rfl) (by with_unfolding_all passes_own) ?_)) | ((with_reducible show wpAny _ _ (call (Value.builtin "len") [Value.ref _]) _ _ _); k_dflt (refine kst_len (by k_asm) (by k_mem) (by first | assumption | rfl) (by lia) ?_)) | ((with_reducible refine floordiv_int ?kbe ?_ (Or.inl (PyProof.noPylong_of_log2 ?kbp))); (case kbe => first | assumption | lia); (case kbp => assumption)) | walk1 | (dsimp only; walk1) | (leave1; (try dsimp only)) | fail "no step")
    rename_i Xz hX FX NX lX kF kN tc kx
    have hS : solveM n n 0 M 1 = (Mi, ti) := hsol.symm
    obtain ⟨led', hE, hs1, hs2⟩ := Ext.of_above (led := led) (rest := (Xz, { cls := .type "tuple", data := .seq #[.ref R', .ref T] }) :: (R', { cls := .type "list", data := .seq rs1.toArray k1 }) :: (L' + 1, oc1) :: rest)
      (((hA.cons (fun q hq => Nat.lt_succ_of_lt (l1 q hq))).cons ltR).cons (fun q hq => lt_of_all lX.2.2 q (hA.1 q hq)))
    refine hret _ led' _ _ kF (News.drop kN fun p hp => hs1 p hp) ?_
    simp only [hS]
    exact ⟨hE, Xz, R', k1, T, rs1, ta, tb, rfl, hs2 _ List.mem_cons_self, hs2 _ (List.mem_cons_of_mem _ List.mem_cons_self), hRows.mono fun p hp => hs2 _ (List.mem_cons_of_mem _ (List.mem_cons_of_mem _ (List.mem_cons_of_mem _ hp))), hs2 _ (List.mem_cons_of_mem _ (List.mem_cons_of_mem _ (List.mem_cons_of_mem _ hT)))⟩
end
section
theorem t_figures (w : World) (mean : ExcName → Option Value) (mg mb : Str → Option Value) (led : List (Addr × Obj)) (n : Nat) (t : Tok) :
    Tell w mean mg mb 44 1 led [.int n t] (fun led' r => led' = led ∧ ∃ F u, r = .int F u ∧ IsFig n F) := by
  intro dp un gd cn cs a₁ ccd cl outer A₀ base h₀ L m s Q E B F X N T hk hd hu hret
  refine wpAny_call ?_
  k_dflt (refine' code_def (binds := [(Str.ofString "number", .int n t)]) ?k1 ?k2 ?k3 ?k4 ?k5 ?kA ?kF ?kK ?k6 ?k7 ?k8 ?k9 ?kB ?_ ?c2 ?c3 ?c4 ?c5; (case kA => exact rfl); (case kF => exact rfl); (case kK => first | exact rfl | assumption); (case k1 => k_asm); (case k2 => k_asm); (case k3 => k_asm); (case k4 => k_asm); (case k5 => k_asm); (case k6 => k_is); (case k7 => k_is); (case k8 => ktr_room); (case k9 => exact BindsTo.of_eq rfl); (case c5 => decide); (case kB => exact locs rfl); (case c2 => exact rfl); (case c3 => exact rfl); (case c4 => exact rfl); k_whole; intro g' L' h' FG' F' N' B' X' T'; (try dsimp only); (try k_fold))
  k_with "exec While Compare cons nil" => k_while (fun _ x y => FigInv n x y) (fun _ _ y => ((n : Int) + 1 - y).toNat) "many" "bound"
  k_with "state" => first | exact fig_start n | exact fig_turn (by assumption) (by assumption)
  k_with "measure" => exact fig_less (by assumption) (by assumption)
  k_steps
  refine hret _ _ _ _ (by k_asm) (News.drop (by k_asm) (by kcj_all)) ⟨rfl, _, _, rfl, fig_end (by assumption) (by assumption)⟩
end
theorem t_rounded (w : World) (mean : ExcName → Option Value) (mg mb : Str → Option Value) (led : List (Addr × Obj)) (b p : Nat) (t u : Tok) (hb : 1 ≤ b) (hp : 1 ≤ p) (hp2 : p ≤ 50) :
    Tell w mean mg mb 51 3 led [.int ((b * 10 ^ p : Nat) : Int) t, .int (p : Int) u] (fun led' r => led' = led ∧ ∃ v, r = .int b v) := by
  intro dp un gd cn cs a₁ ccd cl outer A₀ base h₀ L m s Q E B F X N T hk hd hu hret
  have hd1 : ((b * 10 ^ p : Nat) : Int).fdiv (10 ^ (p : Int).toNat) = b := by rw [Int.toNat_natCast]; exact cut_div
  have hd2 : ((b * 10 ^ p : Nat) : Int).fmod (10 ^ (p : Int).toNat) = 0 := by rw [Int.toNat_natCast]; exact cut_mod
  have hfs : ∀ F, IsFig (b * 10 ^ p) F → (p : Int) < F := fun F hF => fig_above hb hF
  have hlog : ((10 : Int) ^ (p : Int).toNat).natAbs.log2 < 9000 := by rw [Int.toNat_natCast]; exact log_ten hp2
  have hpos : (0 : Int) < 10 ^ (p : Int).toNat := Int.pow_pos (by decide)
  have hne := Int.ne_of_gt hpos
  generalize b * 10 ^ p = N0 at *
  refine wpAny_call ?_
  k_dflt (refine' code_def (binds := [(Str.ofString "number", .int N0 t), (Str.ofString "places", .int p u)]) ?k1 ?k2 ?k3 ?k4 ?k5 ?kA ?kF ?kK ?k6 ?k7 ?k8 ?k9 ?kB ?_ ?c2 ?c3 ?c4 ?c5; (case kA => exact rfl); (case kF => exact rfl); (case kK => first | exact rfl | assumption); (case k1 => k_asm); (case k2 => k_asm); (case k3 => k_asm); (case k4 => k_asm); (case k5 => k_asm); (case k6 => k_is); (case k7 => k_is); (case k8 => ktr_room); (case k9 => exact BindsTo.of_eq rfl); (case c5 => decide); (case kB => exact locs rfl); (case c2 => exact rfl); (case c3 => exact rfl); (case c4 => exact rfl); k_whole; intro g' L' h' FG' F' N' B' X' T'; (try dsimp only); (try k_fold))
  repeat' ((fail_if_success (first | (with_reducible refine stop_ref ?_) | (with_reducible refine stop_lc ?_) | (with_reducible refine stop_alc ?_) | (with_reducible refine stop_zip ?_) | (with_reducible show IterE1 _ _ _ _ _ _ _ _ _ _ _ _ _ _ _) | (with_reducible show IterA1 _ _ _ _ _ _ _ _ _ _ _ _ _ _ _ _) | (with_reducible show CompOut _ _ _ _ _ _ _ _ _) | (with_reducible show IterF _ _ _ _ _ _ _ _ _ _ _) | (with_reducible show ForOut _ _ _ _ _ _ _ _ _))); first | (k_unfold; (try dsimp only)) | ((with_reducible refine item_shape ?_); k_dflt (refine item_at (hs := by with_unfolding_all rfl) (by k_asm) (by k_mem) (by assumption) (by first | (with_reducible exact Int.natCast_nonneg _) | (with_reducible assumption) | decide | lia) (by first | (with_reducible assumption) | decide | lia) ?_)) | ((with_reducible refine for_shape ?_); k_dflt (refine ForF (hs := by intro _; rfl) (by k_asm) (by rfl) (by rfl) (by with_unfolding_all passes_own) ?_)) | ((with_reducible show wpAny _ _ (call (Value.builtin "len") [Value.ref _]) _ _ _); k_dflt (refine kst_len (by k_asm) (by k_mem) (by first | assumption | rfl) (by lia) ?_)) | ((with_reducible refine floordiv_int ?kbe ?_ (Or.inl (PyProof.noPylong_of_log2 ?kbp))); (case kbe => first | assumption | lia); (case kbp => assumption)) | walk1 | (dsimp only; walk1) | (leave1; (try dsimp only)) | fail "no step")
  refine Tell.goF (N := by k_asm) (B := by k_asm) (F := by k_asm) (X := by k_asm) (T := by k_asm) (hk := by first | exact rfl | assumption) (C := t_figures _ _ _ _ _ _ _) (ret := ?_) (hd := by first | decide | exact room1 (by assumption) (by decide) | ktr_room) (hu := by first | decide | exact units1 (by assumption) (by decide) | ktr_units)
  intro f9 t9 h9 tk9 hf9 F9 N9
  (try dsimp only)
  (try k_fold)
  repeat' ((fail_if_success (first | (with_reducible refine stop_ref ?_) | (with_reducible refine stop_lc ?_) | (with_reducible refine stop_alc ?_) | (with_reducible refine stop_zip ?_) | (with_reducible show IterE1 _ _ _ _ _ _ _ _ _ _ _ _ _ _ _) | (with_reducible show IterA1 _ _ _ _ _ _ _ _ _ _ _ _ _ _ _ _) | (with_reducible show CompOut _ _ _ _ _ _ _ _ _) | (with_reducible show IterF _ _ _ _ _ _ _ _ _ _ _) | (with_reducible show ForOut _ _ _ _ _ _ _ _ _))); first | (k_unfold; (try dsimp only)) | ((with_reducible refine item_shape ?_); k_dflt (refine item_at (hs := by with_unfolding_all rfl) (by k_asm) (by k_mem) (by assumption) (by first | (with_reducible exact Int.natCast_nonneg _) | (with_reducible assumption) | decide | lia) (by first | (with_reducible assumption) | decide | lia) ?_)) | ((with_reducible refine for_shape ?_); k_dflt (refine ForF (hs := by intro _; rfl) (by k_asm) (by rfl) (by rfl) (by with_unfolding_all passes_own) ?_)) | ((with_reducible show wpAny _ _ (call (Value.builtin "len") [Value.ref _]) _ _ _); k_dflt (refine kst_len (by k_asm) (by k_mem) (by first | assumption | rfl) (by lia) ?_)) | ((with_reducible refine floordiv_int ?kbe ?_ (Or.inl (PyProof.noPylong_of_log2 ?kbp))); (case kbe => first | assumption | lia); (case kbp => assumption)) | walk1 | (dsimp only; walk1) | (leave1; (try dsimp only)) | fail "no step")
  all_goals first
    | exact absurd (show (10 : Int) ^ (p : Int).toNat < 2 * (N0 : Int).fmod (10 ^ (p : Int).toNat) by assumption) (by rw [hd2]; lia)
    | exact absurd (show 2 * (N0 : Int).fmod (10 ^ (p : Int).toNat) = (10 : Int) ^ (p : Int).toNat by assumption) (by rw [hd2]; lia)
    | (rw [hd1]; exact hret _ _ _ _ (by k_asm) (News.drop (by k_asm) fun p hp => List.mem_cons_of_mem _ hp) ⟨rfl, _, rfl⟩)
    | (exfalso; have hq9 := hfs _ hf9; lia)
section
theorem t_made (w : World) (mean : ExcName → Option Value) (mg mb : Str → Option Value) (led : List (Addr × Obj)) (d j : Nat) (c e : Int) (t u v : Tok) (hc : c.natAbs = d * 10 ^ j * 10 ^ 5) (hF : IsFig (d * 10 ^ j) 9) (hd1 : 1 ≤ d) (hj : j ≤ 8) (he : e = -(j : Int) - 5) :
    Tell w mean mg mb 58 4 led [.int c t, .int e u, .int 9 v] (fun led' r => ∃ x a i t1 t2, r = .ref x ∧ AllLt x led ∧ led' = (x, { cls := .type "tuple", data := .seq #[.int (if c < 0 then -((a : Nat) : Int) else (a : Int)) t1, .int (i : Nat) t2] }) :: led ∧ a * 10 ^ i = d ∧ i ≤ 9) := by
  intro dp un gd cn cs a₁ ccd cl outer A₀ base h₀ L m s Q E B F X N T hk hd hu hret
  have hlt : d * 10 ^ j < 10 ^ 9 := hF.2.1
  have hpos : 1 ≤ d * 10 ^ j := Nat.mul_pos hd1 (Nat.pow_pos (by decide))
  have hfs : ∀ F, IsFig (d * 10 ^ j * 10 ^ 5) F → F = 14 := fun F h => fig_unique h (fig_shift hF hpos 5)
  have hc' : (if c < 0 then -c else c) = ((d * 10 ^ j * 10 ^ 5 : Nat) : Int) := by rw [← hc]; split <;> lia
  have hst := fun x y => strip_end (d := d) (j := j) (e := -(j : Int)) (x := x) (y := y)
  have hs0 := strip_start (e := -(j : Int)) hpos
  generalize d * 10 ^ j = N1 at *
  refine wpAny_call ?_
  k_dflt (refine' code_def (binds := [(Str.ofString "coefficient", .int c t), (Str.ofString "exponent", .int e u), (Str.ofString "digits", .int 9 v)]) ?k1 ?k2 ?k3 ?k4 ?k5 ?kA ?kF ?kK ?k6 ?k7 ?k8 ?k9 ?kB ?_ ?c2 ?c3 ?c4 ?c5; (case kA => exact rfl); (case kF => exact rfl); (case kK => first | exact rfl | assumption); (case k1 => k_asm); (case k2 => k_asm); (case k3 => k_asm); (case k4 => k_asm); (case k5 => k_asm); (case k6 => k_is); (case k7 => k_is); (case k8 => ktr_room); (case k9 => exact BindsTo.of_eq rfl); (case c5 => decide); (case kB => exact locs rfl); (case c2 => exact rfl); (case c3 => exact rfl); (case c4 => exact rfl); k_whole; intro g' L' h' FG' F' N' B' X' T'; (try dsimp only); (try k_fold))
  repeat' ((fail_if_success (first | (with_reducible refine stop_ref ?_) | (with_reducible refine stop_lc ?_) | (with_reducible refine stop_alc ?_) | (with_reducible refine stop_zip ?_) | (with_reducible show IterE1 _ _ _ _ _ _ _ _ _ _ _ _ _ _ _) | (with_reducible show IterA1 _ _ _ _ _ _ _ _ _ _ _ _ _ _ _ _) | (with_reducible show CompOut _ _ _ _ _ _ _ _ _) | (with_reducible show IterF _ _ _ _ _ _ _ _ _ _ _) | (with_reducible show ForOut _ _ _ _ _ _ _ _ _))); first | (k_unfold; (try dsimp only)) | ((with_reducible refine item_shape ?_); k_dflt (refine item_at (hs := by with_unfolding_all rfl) (by k_asm) (by k_mem) (by assumption) (by first | (with_reducible exact Int.natCast_nonneg _) | (with_reducible assumption) | decide | lia) (by first | (with_reducible assumption) | decide | lia) ?_)) | ((with_reducible refine for_shape ?_); k_dflt (refine ForF (hs := by intro _; rfl) (by k_asm) (by rfl) (by rfl) (by with_unfolding_all passes_own) ?_)) | ((with_reducible show wpAny _ _ (call (Value.builtin "len") [Value.ref _]) _ _ _); k_dflt (refine kst_len (by k_asm) (by k_mem) (by first | assumption | rfl) (by lia) ?_)) | ((with_reducible refine floordiv_int ?kbe ?_ (Or.inl (PyProof.noPylong_of_log2 ?kbp))); (case kbe => first | assumption | lia); (case kbp => assumption)) | walk1 | (dsimp only; walk1) | (leave1; (try dsimp only)) | fail "no step")
  rename_i FF NN
  simp only [hc'] at FF ⊢
  refine Tell.goF (N := by k_asm) (B := by k_asm) (F := by k_asm) (X := by k_asm) (T := by k_asm) (hk := by first | exact rfl | assumption) (C := t_figures _ _ _ _ _ _ _) (ret := ?_) (hd := by first | decide | exact room1 (by assumption) (by decide) | ktr_room) (hu := by first | decide | exact units1 (by assumption) (by decide) | ktr_units)
  intro f8 t8 h8 tk8 hf8 F8 N8
  have e8 := hfs _ hf8
  subst e8
  clear hf8
  (try dsimp only)
  (try k_fold)
  repeat' ((fail_if_success (first | (with_reducible refine stop_ref ?_) | (with_reducible refine stop_lc ?_) | (with_reducible refine stop_alc ?_) | (with_reducible refine stop_zip ?_) | (with_reducible show IterE1 _ _ _ _ _ _ _ _ _ _ _ _ _ _ _) | (with_reducible show IterA1 _ _ _ _ _ _ _ _ _ _ _ _ _ _ _ _) | (with_reducible show CompOut _ _ _ _ _ _ _ _ _) | (with_reducible show IterF _ _ _ _ _ _ _ _ _ _ _) | (with_reducible show ForOut _ _ _ _ _ _ _ _ _))); first | (k_unfold; (try dsimp only)) | ((with_reducible refine item_shape ?_); k_dflt (refine item_at (hs := by with_unfolding_all rfl) (by k_asm) (by k_mem) (by assumption) (by first | (with_reducible exact Int.natCast_nonneg _) | (with_reducible assumption) | decide | lia) (by first | (with_reducible assumption) | decide | lia) ?_)) | ((with_reducible refine for_shape ?_); k_dflt (refine ForF (hs := by intro _; rfl) (by k_asm) (by rfl) (by rfl) (by with_unfolding_all passes_own) ?_)) | ((with_reducible show wpAny _ _ (call (Value.builtin "len") [Value.ref _]) _ _ _); k_dflt (refine kst_len (by k_asm) (by k_mem) (by first | assumption | rfl) (by lia) ?_)) | ((with_reducible refine floordiv_int ?kbe ?_ (Or.inl (PyProof.noPylong_of_log2 ?kbp))); (case kbe => first | assumption | lia); (case kbp => assumption)) | walk1 | (dsimp only; walk1) | (leave1; (try dsimp only)) | fail "no step")
  refine Tell.goI (N := by k_asm) (B := by k_asm) (F := by k_asm) (X := by k_asm) (T := by k_asm) (hk := by first | exact rfl | assumption) (C := t_rounded w mean mg mb _ N1 5 _ _ hpos (by decide) (by decide)) (ret := ?_) (hd := by first | decide | exact room1 (by assumption) (by decide) | ktr_room) (hu := by first | decide | exact units1 (by assumption) (by decide) | ktr_units)
  intro t9 h9 tk9 F9 N9
  (try dsimp only)
  k_with "exec While Compare cons nil" => k_while (fun _ x y => Strip N1 (-(j : Int)) x y) (fun _ x _ => x.toNat) "size" "exponent"
  k_with "state" => first | exact strip_start' hpos (by lia) | exact strip_turn (by assumption) (by assumption)
  k_with "measure" => exact strip_less (by assumption)
  repeat' ((fail_if_success (first | (with_reducible refine stop_ref ?_) | (with_reducible refine stop_lc ?_) | (with_reducible refine stop_alc ?_) | (with_reducible refine stop_zip ?_) | (with_reducible show IterE1 _ _ _ _ _ _ _ _ _ _ _ _ _ _ _) | (with_reducible show IterA1 _ _ _ _ _ _ _ _ _ _ _ _ _ _ _ _) | (with_reducible show CompOut _ _ _ _ _ _ _ _ _) | (with_reducible show IterF _ _ _ _ _ _ _ _ _ _ _) | (with_reducible show ForOut _ _ _ _ _ _ _ _ _))); first | (k_unfold; (try dsimp only)) | ((with_reducible refine item_shape ?_); k_dflt (refine item_at (hs := by with_unfolding_all rfl) (by k_asm) (by k_mem) (by assumption) (by first | (with_reducible exact Int.natCast_nonneg _) | (with_reducible assumption) | decide | lia) (by first | (with_reducible assumption) | decide | lia) ?_)) | ((with_reducible refine for_shape ?_); k_dflt (refine ForF (hs := by intro _; rfl) (by k_asm) (by rfl) (by rfl) (by with_unfolding_all passes_own) ?_)) | ((with_reducible show wpAny _ _ (call (Value.builtin "len") [Value.ref _]) _ _ _); k_dflt (refine kst_len (by k_asm) (by k_mem) (by first | assumption | rfl) (by lia) ?_)) | ((with_reducible refine floordiv_int ?kbe ?_ (Or.inl (PyProof.noPylong_of_log2 ?kbp))); (case kbe => first | assumption | lia); (case kbp => assumption)) | walk1 | (dsimp only; walk1) | (leave1; (try dsimp only)) | fail "no step")
  · exact absurd (show ((N1 : Nat) : Int) = 0 by assumption) (by lia)
  · rename_i kx
    refine hide fun H9 hH9 => ?_
    obtain ⟨a, i, ea, ei, hai, ha, hal, hi⟩ := hst _ _ kInv rfl kx hd1 hlt
    subst ea ei
    refine hH9 ?_
    clear hH9 H9
    have hb9 : ∀ F, IsFig a F → 1 ≤ F ∧ F ≤ 9 := fun F hF => ⟨hF.1, fig_le hF hal (by decide)⟩
    refine Tell.goF (N := by k_asm) (B := by k_asm) (F := by k_asm) (X := by k_asm) (T := by k_asm) (hk := by first | exact rfl | assumption) (C := t_figures _ _ _ _ _ _ _) (ret := ?_) (hd := by first | decide | exact room1 (by assumption) (by decide) | ktr_room) (hu := by first | decide | exact units1 (by assumption) (by decide) | ktr_units)
    intro f7 t7 h7 tk7 hf7 F7 N7
    have b7 := hb9 _ hf7
    (try dsimp only)
    (try k_fold)
    repeat' ((fail_if_success (first | (with_reducible refine stop_ref ?_) | (with_reducible refine stop_lc ?_) | (with_reducible refine stop_alc ?_) | (with_reducible refine stop_zip ?_) | (with_reducible show IterE1 _ _ _ _ _ _ _ _ _ _ _ _ _ _ _) | (with_reducible show IterA1 _ _ _ _ _ _ _ _ _ _ _ _ _ _ _ _) | (with_reducible show CompOut _ _ _ _ _ _ _ _ _) | (with_reducible show IterF _ _ _ _ _ _ _ _ _ _ _) | (with_reducible show ForOut _ _ _ _ _ _ _ _ _))); first | (k_unfold; (try dsimp only)) | ((with_reducible refine item_shape ?_); k_dflt (refine item_at (hs := by with_unfolding_all rfl) (by k_asm) (by k_mem) (by assumption) (by first | (with_reducible exact Int.natCast_nonneg _) | (with_reducible assumption) | decide | lia) (by first | (with_reducible assumption) | decide | lia) ?_)) | ((with_reducible refine for_shape ?_); k_dflt (refine ForF (hs := by intro _; rfl) (by k_asm) (by rfl) (by rfl) (by with_unfolding_all passes_own) ?_)) | ((with_reducible show wpAny _ _ (call (Value.builtin "len") [Value.ref _]) _ _ _); k_dflt (refine kst_len (by k_asm) (by k_mem) (by first | assumption | rfl) (by lia) ?_)) | ((with_reducible refine floordiv_int ?kbe ?_ (Or.inl (PyProof.noPylong_of_log2 ?kbp))); (case kbe => first | assumption | lia); (case kbp => assumption)) | walk1 | (dsimp only; walk1) | (leave1; (try dsimp only)) | fail "no step")
    · rename_i hcl D h4 F2 N2 l2 kF kN tc kx
      have key : (if c < 0 then -((a : Nat) : Int) else (a : Int)) = -(a : Int) := if_pos hcl
      rw [← key] at kN
      exact hret _ _ _ _ kF (News.keep1 kN) ⟨_, a, i, _, _, rfl, l2.2, rfl, hai, hi⟩
    · rename_i hcl D h4 F2 N2 l2 kF kN tc kx
      have key : (if c < 0 then -((a : Nat) : Int) else (a : Int)) = (a : Int) := if_neg hcl
      rw [← key] at kN
      exact hret _ _ _ _ kF (News.keep1 kN) ⟨_, a, i, _, _, rfl, l2.2, rfl, hai, hi⟩
end
theorem t_figuresZ (w : World) (mean : ExcName → Option Value) (mg mb : Str → Option Value) (led : List (Addr × Obj)) (z : Int) (t : Tok) (hz : 0 ≤ z) :
    Tell w mean mg mb 44 1 led [.int z t] (fun led' r => led' = led ∧ ∃ F u, r = .int F u ∧ IsFig z.toNat F) := by
  obtain ⟨n, rfl⟩ := Int.eq_ofNat_of_zero_le hz
  exact t_figures w mean mg mb led n t
theorem t_made0 (w : World) (mean : ExcName → Option Value) (mg mb : Str → Option Value) (led : List (Addr × Obj)) (e : Int) (t u v : Tok) :
    Tell w mean mg mb 58 4 led [.int 0 t, .int e u, .int 9 v] (fun led' r => ∃ x t1 t2, r = .ref x ∧ AllLt x led ∧ led' = (x, { cls := .type "tuple", data := .seq #[.int 0 t1, .int 0 t2] }) :: led) := by
  intro dp un gd cn cs a₁ ccd cl outer A₀ base h₀ L m s Q E B F X N T hk hd hu hret
  have hfs : ∀ F, IsFig (0 : Int).toNat F → F = 1 := fun F h => fig_unique h fig_zero
  refine wpAny_call ?_
  k_dflt (refine' code_def (binds := [(Str.ofString "coefficient", .int 0 t), (Str.ofString "exponent", .int e u), (Str.ofString "digits", .int 9 v)]) ?k1 ?k2 ?k3 ?k4 ?k5 ?kA ?kF ?kK ?k6 ?k7 ?k8 ?k9 ?kB ?_ ?c2 ?c3 ?c4 ?c5; (case kA => exact rfl); (case kF => exact rfl); (case kK => first | exact rfl | assumption); (case k1 => k_asm); (case k2 => k_asm); (case k3 => k_asm); (case k4 => k_asm); (case k5 => k_asm); (case k6 => k_is); (case k7 => k_is); (case k8 => ktr_room); (case k9 => exact BindsTo.of_eq rfl); (case c5 => decide); (case kB => exact locs rfl); (case c2 => exact rfl); (case c3 => exact rfl); (case c4 => exact rfl); k_whole; intro g' L' h' FG' F' N' B' X' T'; (try dsimp only); (try k_fold))
  repeat' ((fail_if_success (first | (with_reducible refine stop_ref ?_) | (with_reducible refine stop_lc ?_) | (with_reducible refine stop_alc ?_) | (with_reducible refine stop_zip ?_) | (with_reducible show IterE1 _ _ _ _ _ _ _ _ _ _ _ _ _ _ _) | (with_reducible show IterA1 _ _ _ _ _ _ _ _ _ _ _ _ _ _ _ _) | (with_reducible show CompOut _ _ _ _ _ _ _ _ _) | (with_reducible show IterF _ _ _ _ _ _ _ _ _ _ _) | (with_reducible show ForOut _ _ _ _ _ _ _ _ _))); first | (k_unfold; (try dsimp only)) | ((with_reducible refine item_shape ?_); k_dflt (refine item_at (hs := by with_unfolding_all rfl) (by k_asm) (by k_mem) (by assumption) (by first | (with_reducible exact Int.natCast_nonneg _) | (with_reducible assumption) | decide | lia) (by first | (with_reducible assumption) | decide | lia) ?_)) | ((with_reducible refine for_shape ?_); k_dflt (refine ForF (hs := by intro _; rfl) (by k_asm) (by rfl) (by rfl) (by with_unfolding_all passes_own) ?_)) | ((with_reducible show wpAny _ _ (call (Value.builtin "len") [Value.ref _]) _ _ _); k_dflt (refine kst_len (by k_asm) (by k_mem) (by first | assumption | rfl) (by lia) ?_)) | ((with_reducible refine floordiv_int ?kbe ?_ (Or.inl (PyProof.noPylong_of_log2 ?kbp))); (case kbe => first | assumption | lia); (case kbp => assumption)) | walk1 | (dsimp only; walk1) | (leave1; (try dsimp only)) | fail "no step")
  refine Tell.goF (N := by k_asm) (B := by k_asm) (F := by k_asm) (X := by k_asm) (T := by k_asm) (hk := by first | exact rfl | assumption) (C := t_figuresZ _ _ _ _ _ _ _ (by first | decide | lia | (split <;> lia))) (ret := ?_) (hd := by first | decide | exact room1 (by assumption) (by decide) | ktr_room) (hu := by first | decide | exact units1 (by assumption) (by decide) | ktr_units)
  intro f9 t9 h9 tk9 hf9 F9 N9
  (try dsimp only)
  (try k_fold)
  have e7 := hfs _ hf9
  subst e7
  repeat' ((fail_if_success (first | (with_reducible refine stop_ref ?_) | (with_reducible refine stop_lc ?_) | (with_reducible refine stop_alc ?_) | (with_reducible refine stop_zip ?_) | (with_reducible show IterE1 _ _ _ _ _ _ _ _ _ _ _ _ _ _ _) | (with_reducible show IterA1 _ _ _ _ _ _ _ _ _ _ _ _ _ _ _ _) | (with_reducible show CompOut _ _ _ _ _ _ _ _ _) | (with_reducible show IterF _ _ _ _ _ _ _ _ _ _ _) | (with_reducible show ForOut _ _ _ _ _ _ _ _ _))); first | (k_unfold; (try dsimp only)) | ((with_reducible refine item_shape ?_); k_dflt (refine item_at (hs := by with_unfolding_all rfl) (by k_asm) (by k_mem) (by assumption) (by first | (with_reducible exact Int.natCast_nonneg _) | (with_reducible assumption) | decide | lia) (by first | (with_reducible assumption) | decide | lia) ?_)) | ((with_reducible refine for_shape ?_); k_dflt (refine ForF (hs := by intro _; rfl) (by k_asm) (by rfl) (by rfl) (by with_unfolding_all passes_own) ?_)) | ((with_reducible show wpAny _ _ (call (Value.builtin "len") [Value.ref _]) _ _ _); k_dflt (refine kst_len (by k_asm) (by k_mem) (by first | assumption | rfl) (by lia) ?_)) | ((with_reducible refine floordiv_int ?kbe ?_ (Or.inl (PyProof.noPylong_of_log2 ?kbp))); (case kbe => first | assumption | lia); (case kbp => assumption)) | walk1 | (dsimp only; walk1) | (leave1; (try dsimp only)) | fail "no step")
  · exact hret _ _ _ _ (by k_asm) (by k_asm) ⟨_, _, _, rfl, by ktn_lt, rfl⟩
section
variable {w : World} {mean : ExcName → Option Value} {mg mb : Str → Option Value} {fa : Addr} {need : Nat} {led : List (Addr × Obj)} {vs : List Value} {dp un : Nat} {gd : Option (List Code)} {cn : Str} {cs : Scope} {a : Addr} {ccd : Value} {cl : List (Str × Addr)} {outer : List Env} {A₀ : Around} {base h₀ : Heap} {L : Addr} {m : Str → Option Value} {s : Shared} {Q E : Value → Shared → Prop}
theorem Tell.goW {c : Int} {d : Nat} (N : News h₀ L s.heap led) (B : Below A₀ base outer h₀) (F : Fr h₀ L s.heap m) (X : (Mine.hd.heap_39 w.params).In h₀) (T : TopP mean mg mb h₀) (hk : cs.kind = .function) (C : Tell w mean mg mb fa need led vs (fun led' r => ∃ x a i t1 t2, r = .ref x ∧ AllLt x led ∧ led' = (x, { cls := .type "tuple", data := .seq #[.int (if c < 0 then -((a : Nat) : Int) else (a : Int)) t1, .int (i : Nat) t2] }) :: led ∧ a * 10 ^ i = d ∧ i ≤ 9))
    (ret : ∀ x (k i : Nat) t u h' tk', AllLt x led → k * 10 ^ i = d → i ≤ 9 → Fr h₀ L h' m → News h₀ L h' ((x, { cls := .type "tuple", data := .seq #[.int (if c < 0 then -((k : Nat) : Int) else (k : Int)) t, .int (i : Nat) u] }) :: led) → Q (.ref x) { s with heap := h', toks := tk' }) (hd : dp + need < recursionLimit) (hu : un + 8 * need < cLine) : wpAny (model PR w) (ktrTop dp un gd cn cs L a ccd cl outer) (call (.ref fa) vs) Q E s := Tell.use N B F X T hk C hd hu fun r led' h' tk' F' N' P9 => by
  obtain ⟨x, k, i, t, u, rfl, l, rfl, h1, h2⟩ := P9
  exact ret x k i t u h' tk' l h1 h2 F' N'
theorem Tell.goD {D : Int} (N : News h₀ L s.heap led) (B : Below A₀ base outer h₀) (F : Fr h₀ L s.heap m) (X : (Mine.hd.heap_39 w.params).In h₀) (T : TopP mean mg mb h₀) (hk : cs.kind = .function) (C : Tell w mean mg mb fa need led vs (fun led' r => ∃ y c i t3 t4, r = .ref y ∧ AllLt y led ∧ led' = (y, { cls := .type "tuple", data := .seq #[.int c t3, .int (i : Nat) t4] }) :: led ∧ c * 10 ^ i = D ∧ i ≤ 9))
    (ret : ∀ y c (i : Nat) t u h' tk', AllLt y led → c * 10 ^ i = D → i ≤ 9 → Fr h₀ L h' m → News h₀ L h' ((y, { cls := .type "tuple", data := .seq #[.int c t, .int (i : Nat) u] }) :: led) → Q (.ref y) { s with heap := h', toks := tk' }) (hd : dp + need < recursionLimit) (hu : un + 8 * need < cLine) : wpAny (model PR w) (ktrTop dp un gd cn cs L a ccd cl outer) (call (.ref fa) vs) Q E s := Tell.use N B F X T hk C hd hu fun r led' h' tk' F' N' P9 => by
  obtain ⟨y, c, i, t, u, rfl, l, rfl, h1, h2⟩ := P9
  exact ret y c i t u h' tk' l h1 h2 F' N'
end
section
theorem t_decimal (w : World) (mean : ExcName → Option Value) (mg mb : Str → Option Value) (led : List (Addr × Obj)) (d : Int) (x : Addr) (t1 t2 t : Tok) (mx : (x, ({ cls := .type "tuple", data := .seq #[.int d t1, .int 1 t2] } : Obj)) ∈ led) (hlt : d.natAbs < 10 ^ 9) :
    Tell w mean mg mb 114 6 led [.ref x, .int 9 t] (fun led' r => ∃ y c i t3 t4, r = .ref y ∧ AllLt y led ∧ led' = (y, { cls := .type "tuple", data := .seq #[.int c t3, .int (i : Nat) t4] }) :: led ∧ c * 10 ^ i = d ∧ i ≤ 9) := by
  intro dp un gd cn cs a₁ ccd cl outer A₀ base h₀ L m s Q E B F X N T hk hd hu hret
  have hfs : ∀ F, IsFig (if d < 0 then -d else d).toNat F → 1 ≤ F ∧ F ≤ 9 := fun F hF => ⟨hF.1, fig_le hF (by split <;> lia) (by decide)⟩
  have hbits : Builtin.Int.intBits (if d < 0 then -d else d) ≤ 64 := abs_bits hlt
  refine wpAny_call ?_
  k_dflt (refine' code_def (binds := [(Str.ofString "one", .ref x), (Str.ofString "digits", .int 9 t)]) ?k1 ?k2 ?k3 ?k4 ?k5 ?kA ?kF ?kK ?k6 ?k7 ?k8 ?k9 ?kB ?_ ?c2 ?c3 ?c4 ?c5; (case kA => exact rfl); (case kF => exact rfl); (case kK => first | exact rfl | assumption); (case k1 => k_asm); (case k2 => k_asm); (case k3 => k_asm); (case k4 => k_asm); (case k5 => k_asm); (case k6 => k_is); (case k7 => k_is); (case k8 => ktr_room); (case k9 => exact BindsTo.of_eq rfl); (case c5 => decide); (case kB => exact locs rfl); (case c2 => exact rfl); (case c3 => exact rfl); (case c4 => exact rfl); k_whole; intro g' L' h' FG' F' N' B' X' T'; (try dsimp only); (try k_fold))
  repeat' ((fail_if_success (first | (with_reducible refine stop_ref ?_) | (with_reducible refine stop_lc ?_) | (with_reducible refine stop_alc ?_) | (with_reducible refine stop_zip ?_) | (with_reducible show IterE1 _ _ _ _ _ _ _ _ _ _ _ _ _ _ _) | (with_reducible show IterA1 _ _ _ _ _ _ _ _ _ _ _ _ _ _ _ _) | (with_reducible show CompOut _ _ _ _ _ _ _ _ _) | (with_reducible show IterF _ _ _ _ _ _ _ _ _ _ _) | (with_reducible show ForOut _ _ _ _ _ _ _ _ _))); first | (k_unfold; (try dsimp only)) | ((with_reducible refine mul_int (hm := ?kbe) ?_); (case kbe => exact IntMulOk.of_left (by assumption))) | ((with_reducible refine floordiv_int ?kbe ?_ (Or.inl (PyProof.noPylong_of_log2 ?kbp))); (case kbe => decide); (case kbp => decide)) | ((with_reducible refine item_shape ?_); k_dflt (refine item_at (hs := by with_unfolding_all rfl) (by k_asm) (by k_mem) (by assumption) (by first | (with_reducible exact Int.natCast_nonneg _) | (with_reducible assumption) | decide | lia) (by first | (with_reducible assumption) | decide | lia) ?_)) | ((with_reducible refine for_shape ?_); k_dflt (refine ForF (hs := by intro _; rfl) (by k_asm) (by rfl) (by rfl) (by with_unfolding_all passes_own) ?_)) | ((with_reducible show wpAny _ _ (call (Value.builtin "len") [Value.ref _]) _ _ _); k_dflt (refine kst_len (by k_asm) (by k_mem) (by first | assumption | rfl) (by lia) ?_)) | ((with_reducible refine floordiv_int ?kbe ?_ (Or.inl (PyProof.noPylong_of_log2 ?kbp))); (case kbe => first | assumption | lia); (case kbp => assumption)) | walk1 | (dsimp only; walk1) | (leave1; (try dsimp only)) | fail "no step")
  refine Tell.goF (N := by k_asm) (B := by k_asm) (F := by k_asm) (X := by k_asm) (T := by k_asm) (hk := by first | exact rfl | assumption) (C := t_figuresZ _ _ _ _ _ _ _ (by first | decide | lia | (split <;> lia))) (ret := ?_) (hd := by first | decide | exact room1 (by assumption) (by decide) | ktr_room) (hu := by first | decide | exact units1 (by assumption) (by decide) | ktr_units)
  intro f6 t6 h6 tk6 hf6 F6 N6
  (try dsimp only)
  (try k_fold)
  have e6 := fig_unique hf6 fig_one
  subst e6
  clear hf6
  repeat' ((fail_if_success (first | (with_reducible refine stop_ref ?_) | (with_reducible refine stop_lc ?_) | (with_reducible refine stop_alc ?_) | (with_reducible refine stop_zip ?_) | (with_reducible show IterE1 _ _ _ _ _ _ _ _ _ _ _ _ _ _ _) | (with_reducible show IterA1 _ _ _ _ _ _ _ _ _ _ _ _ _ _ _ _) | (with_reducible show CompOut _ _ _ _ _ _ _ _ _) | (with_reducible show IterF _ _ _ _ _ _ _ _ _ _ _) | (with_reducible show ForOut _ _ _ _ _ _ _ _ _))); first | (k_unfold; (try dsimp only)) | ((with_reducible refine mul_int (hm := ?kbe) ?_); (case kbe => exact IntMulOk.of_left (by assumption))) | ((with_reducible refine floordiv_int ?kbe ?_ (Or.inl (PyProof.noPylong_of_log2 ?kbp))); (case kbe => decide); (case kbp => decide)) | ((with_reducible refine item_shape ?_); k_dflt (refine item_at (hs := by with_unfolding_all rfl) (by k_asm) (by k_mem) (by assumption) (by first | (with_reducible exact Int.natCast_nonneg _) | (with_reducible assumption) | decide | lia) (by first | (with_reducible assumption) | decide | lia) ?_)) | ((with_reducible refine for_shape ?_); k_dflt (refine ForF (hs := by intro _; rfl) (by k_asm) (by rfl) (by rfl) (by with_unfolding_all passes_own) ?_)) | ((with_reducible show wpAny _ _ (call (Value.builtin "len") [Value.ref _]) _ _ _); k_dflt (refine kst_len (by k_asm) (by k_mem) (by first | assumption | rfl) (by lia) ?_)) | ((with_reducible refine floordiv_int ?kbe ?_ (Or.inl (PyProof.noPylong_of_log2 ?kbp))); (case kbe => first | assumption | lia); (case kbp => assumption)) | walk1 | (dsimp only; walk1) | (leave1; (try dsimp only)) | fail "no step")
  refine Tell.goF (N := by k_asm) (B := by k_asm) (F := by k_asm) (X := by k_asm) (T := by k_asm) (hk := by first | exact rfl | assumption) (C := t_figuresZ _ _ _ _ _ _ _ (by first | decide | lia | (split <;> lia))) (ret := ?_) (hd := by first | decide | exact room1 (by assumption) (by decide) | ktr_room) (hu := by first | decide | exact units1 (by assumption) (by decide) | ktr_units)
  intro f5 t5 h5 tk5 hf5 F5 N5
  (try dsimp only)
  (try k_fold)
  obtain ⟨b5, b6⟩ := hfs _ hf5
  repeat' ((fail_if_success (first | (with_reducible refine stop_ref ?_) | (with_reducible refine stop_lc ?_) | (with_reducible refine stop_alc ?_) | (with_reducible refine stop_zip ?_) | (with_reducible show IterE1 _ _ _ _ _ _ _ _ _ _ _ _ _ _ _) | (with_reducible show IterA1 _ _ _ _ _ _ _ _ _ _ _ _ _ _ _ _) | (with_reducible show CompOut _ _ _ _ _ _ _ _ _) | (with_reducible show IterF _ _ _ _ _ _ _ _ _ _ _) | (with_reducible show ForOut _ _ _ _ _ _ _ _ _))); first | (k_unfold; (try dsimp only)) | ((with_reducible refine mul_int (hm := ?kbe) ?_); (case kbe => exact IntMulOk.of_left (by assumption))) | ((with_reducible refine floordiv_int ?kbe ?_ (Or.inl (PyProof.noPylong_of_log2 ?kbp))); (case kbe => decide); (case kbp => decide)) | ((with_reducible refine item_shape ?_); k_dflt (refine item_at (hs := by with_unfolding_all rfl) (by k_asm) (by k_mem) (by assumption) (by first | (with_reducible exact Int.natCast_nonneg _) | (with_reducible assumption) | decide | lia) (by first | (with_reducible assumption) | decide | lia) ?_)) | ((with_reducible refine for_shape ?_); k_dflt (refine ForF (hs := by intro _; rfl) (by k_asm) (by rfl) (by rfl) (by with_unfolding_all passes_own) ?_)) | ((with_reducible show wpAny _ _ (call (Value.builtin "len") [Value.ref _]) _ _ _); k_dflt (refine kst_len (by k_asm) (by k_mem) (by first | assumption | rfl) (by lia) ?_)) | ((with_reducible refine floordiv_int ?kbe ?_ (Or.inl (PyProof.noPylong_of_log2 ?kbp))); (case kbe => first | assumption | lia); (case kbp => assumption)) | walk1 | (dsimp only; walk1) | (leave1; (try dsimp only)) | fail "no step")
  · rename IsFig _ _ => hf
    have hneg : d < 0 := by assumption
    have hd0 : d ≠ 0 := by lia
    have h8 := (hfs _ hf).2
    have hcc := dec_cn hf h8
    refine Tell.goW (N := by k_asm) (B := by k_asm) (F := by k_asm) (X := by k_asm) (T := by k_asm) (hk := by first | exact rfl | assumption) (C := t_made w mean mg mb _ d.natAbs _ _ _ _ _ _ hcc (dec_fig hf h8 hd0) (by lia) (by have := hf.1; lia) (by lia)) (ret := ?_) (hd := by first | decide | exact room1 (by assumption) (by decide) | ktr_room) (hu := by first | decide | exact units1 (by assumption) (by decide) | ktr_units)
    intro x2 a i t5 t6 h9 tk9 l2 hai hi F9 N9
    dsimp only
    repeat' ((fail_if_success (first | (with_reducible refine stop_ref ?_) | (with_reducible refine stop_lc ?_) | (with_reducible refine stop_alc ?_) | (with_reducible refine stop_zip ?_) | (with_reducible show IterE1 _ _ _ _ _ _ _ _ _ _ _ _ _ _ _) | (with_reducible show IterA1 _ _ _ _ _ _ _ _ _ _ _ _ _ _ _ _) | (with_reducible show CompOut _ _ _ _ _ _ _ _ _) | (with_reducible show IterF _ _ _ _ _ _ _ _ _ _ _) | (with_reducible show ForOut _ _ _ _ _ _ _ _ _))); first | (k_unfold; (try dsimp only)) | ((with_reducible refine mul_int (hm := ?kbe) ?_); (case kbe => exact IntMulOk.of_left (by assumption))) | ((with_reducible refine floordiv_int ?kbe ?_ (Or.inl (PyProof.noPylong_of_log2 ?kbp))); (case kbe => decide); (case kbp => decide)) | ((with_reducible refine item_shape ?_); k_dflt (refine item_at (hs := by with_unfolding_all rfl) (by k_asm) (by k_mem) (by assumption) (by first | (with_reducible exact Int.natCast_nonneg _) | (with_reducible assumption) | decide | lia) (by first | (with_reducible assumption) | decide | lia) ?_)) | ((with_reducible refine for_shape ?_); k_dflt (refine ForF (hs := by intro _; rfl) (by k_asm) (by rfl) (by rfl) (by with_unfolding_all passes_own) ?_)) | ((with_reducible show wpAny _ _ (call (Value.builtin "len") [Value.ref _]) _ _ _); k_dflt (refine kst_len (by k_asm) (by k_mem) (by first | assumption | rfl) (by lia) ?_)) | ((with_reducible refine floordiv_int ?kbe ?_ (Or.inl (PyProof.noPylong_of_log2 ?kbp))); (case kbe => first | assumption | lia); (case kbp => assumption)) | walk1 | (dsimp only; walk1) | (leave1; (try dsimp only)) | fail "no step")
    exact hret _ _ _ _ (by k_asm) (News.keep1 (by k_asm)) ⟨x2, _, i, _, _, rfl, l2.2, rfl, dec_end (dec_nz hcc) (fun _ => Int.neg_nonpos_of_nonneg dec_pos) (fun h => absurd hneg h) hai, hi⟩
  · rename IsFig _ _ => hf
    have hneg : ¬ d < 0 := by assumption
    have h8 := (hfs _ hf).2
    by_cases hd0 : d = 0
    · have e0 : ∀ f : Int, (10 * ((if d < 0 then -d else d) * 10 ^ (9 + 3 + 1 - f).toNat).fdiv 1 + 0) = 0 := fun f => by subst hd0; simp
      simp only [e0]
      refine Tell.goN (N := by k_asm) (B := by k_asm) (F := by k_asm) (X := by k_asm) (T := by k_asm) (hk := by first | exact rfl | assumption) (C := t_made0 w mean mg mb _ _ _ _ _) (ret := ?_) (hd := by first | decide | exact room1 (by assumption) (by decide) | ktr_room) (hu := by first | decide | exact units1 (by assumption) (by decide) | ktr_units)
      intro x2 t5 t6 h9 tk9 l2 F9 N9
      dsimp only
      repeat' ((fail_if_success (first | (with_reducible refine stop_ref ?_) | (with_reducible refine stop_lc ?_) | (with_reducible refine stop_alc ?_) | (with_reducible refine stop_zip ?_) | (with_reducible show IterE1 _ _ _ _ _ _ _ _ _ _ _ _ _ _ _) | (with_reducible show IterA1 _ _ _ _ _ _ _ _ _ _ _ _ _ _ _ _) | (with_reducible show CompOut _ _ _ _ _ _ _ _ _) | (with_reducible show IterF _ _ _ _ _ _ _ _ _ _ _) | (with_reducible show ForOut _ _ _ _ _ _ _ _ _))); first | (k_unfold; (try dsimp only)) | ((with_reducible refine mul_int (hm := ?kbe) ?_); (case kbe => exact IntMulOk.of_left (by assumption))) | ((with_reducible refine floordiv_int ?kbe ?_ (Or.inl (PyProof.noPylong_of_log2 ?kbp))); (case kbe => decide); (case kbp => decide)) | ((with_reducible refine item_shape ?_); k_dflt (refine item_at (hs := by with_unfolding_all rfl) (by k_asm) (by k_mem) (by assumption) (by first | (with_reducible exact Int.natCast_nonneg _) | (with_reducible assumption) | decide | lia) (by first | (with_reducible assumption) | decide | lia) ?_)) | ((with_reducible refine for_shape ?_); k_dflt (refine ForF (hs := by intro _; rfl) (by k_asm) (by rfl) (by rfl) (by with_unfolding_all passes_own) ?_)) | ((with_reducible show wpAny _ _ (call (Value.builtin "len") [Value.ref _]) _ _ _); k_dflt (refine kst_len (by k_asm) (by k_mem) (by first | assumption | rfl) (by lia) ?_)) | ((with_reducible refine floordiv_int ?kbe ?_ (Or.inl (PyProof.noPylong_of_log2 ?kbp))); (case kbe => first | assumption | lia); (case kbp => assumption)) | walk1 | (dsimp only; walk1) | (leave1; (try dsimp only)) | fail "no step")
      exact hret _ _ _ _ (by k_asm) (News.keep1 (by k_asm)) ⟨x2, 0, 0, _, _, rfl, l2.2, rfl, by rw [hd0]; rfl, by decide⟩
    · have hcc := dec_c hf h8
      refine Tell.goW (N := by k_asm) (B := by k_asm) (F := by k_asm) (X := by k_asm) (T := by k_asm) (hk := by first | exact rfl | assumption) (C := t_made w mean mg mb _ d.natAbs _ _ _ _ _ _ hcc (dec_fig hf h8 hd0) (by lia) (by have := hf.1; lia) (by lia)) (ret := ?_) (hd := by first | decide | exact room1 (by assumption) (by decide) | ktr_room) (hu := by first | decide | exact units1 (by assumption) (by decide) | ktr_units)
      intro x2 a i t5 t6 h9 tk9 l2 hai hi F9 N9
      dsimp only
      repeat' ((fail_if_success (first | (with_reducible refine stop_ref ?_) | (with_reducible refine stop_lc ?_) | (with_reducible refine stop_alc ?_) | (with_reducible refine stop_zip ?_) | (with_reducible show IterE1 _ _ _ _ _ _ _ _ _ _ _ _ _ _ _) | (with_reducible show IterA1 _ _ _ _ _ _ _ _ _ _ _ _ _ _ _ _) | (with_reducible show CompOut _ _ _ _ _ _ _ _ _) | (with_reducible show IterF _ _ _ _ _ _ _ _ _ _ _) | (with_reducible show ForOut _ _ _ _ _ _ _ _ _))); first | (k_unfold; (try dsimp only)) | ((with_reducible refine mul_int (hm := ?kbe) ?_); (case kbe => exact IntMulOk.of_left (by assumption))) | ((with_reducible refine floordiv_int ?kbe ?_ (Or.inl (PyProof.noPylong_of_log2 ?kbp))); (case kbe => decide); (case kbp => decide)) | ((with_reducible refine item_shape ?_); k_dflt (refine item_at (hs := by with_unfolding_all rfl) (by k_asm) (by k_mem) (by assumption) (by first | (with_reducible exact Int.natCast_nonneg _) | (with_reducible assumption) | decide | lia) (by first | (with_reducible assumption) | decide | lia) ?_)) | ((with_reducible refine for_shape ?_); k_dflt (refine ForF (hs := by intro _; rfl) (by k_asm) (by rfl) (by rfl) (by with_unfolding_all passes_own) ?_)) | ((with_reducible show wpAny _ _ (call (Value.builtin "len") [Value.ref _]) _ _ _); k_dflt (refine kst_len (by k_asm) (by k_mem) (by first | assumption | rfl) (by lia) ?_)) | ((with_reducible refine floordiv_int ?kbe ?_ (Or.inl (PyProof.noPylong_of_log2 ?kbp))); (case kbe => first | assumption | lia); (case kbp => assumption)) | walk1 | (dsimp only; walk1) | (leave1; (try dsimp only)) | fail "no step")
      exact hret _ _ _ _ (by k_asm) (News.keep1 (by k_asm)) ⟨x2, _, i, _, _, rfl, l2.2, rfl, dec_end (dec_nz hcc) (fun h => absurd h hneg) (fun _ => dec_pos) hai, hi⟩
end
theorem t_fracof (w : World) (mean : ExcName → Option Value) (mg mb : Str → Option Value) (led : List (Addr × Obj)) (v : Int) (t : Tok) :
    Tell w mean mg mb 86 2 led [.int v t] (PostQ led ((v : Int) : Rat)) := by
  intro dp un gd cn cs a₁ ccd cl outer A₀ base h₀ L m s Q E B F X N T hk hd hu hret
  refine wpAny_call ?_
  k_dflt (refine' code_def (binds := [(Str.ofString "value", .int v t)]) ?k1 ?k2 ?k3 ?k4 ?k5 ?kA ?kF ?kK ?k6 ?k7 ?k8 ?k9 ?kB ?_ ?c2 ?c3 ?c4 ?c5; (case kA => exact rfl); (case kF => exact rfl); (case kK => first | exact rfl | assumption); (case k1 => k_asm); (case k2 => k_asm); (case k3 => k_asm); (case k4 => k_asm); (case k5 => k_asm); (case k6 => k_is); (case k7 => k_is); (case k8 => ktr_room); (case k9 => exact BindsTo.of_eq rfl); (case c5 => decide); (case kB => exact locs rfl); (case c2 => exact rfl); (case c3 => exact rfl); (case c4 => exact rfl); k_whole; intro g' L' h' FG' F' N' B' X' T'; (try dsimp only); (try k_fold))
  repeat' ((fail_if_success (first | (with_reducible refine stop_ref ?_) | (with_reducible refine stop_lc ?_) | (with_reducible refine stop_alc ?_) | (with_reducible refine stop_zip ?_) | (with_reducible show IterE1 _ _ _ _ _ _ _ _ _ _ _ _ _ _ _) | (with_reducible show IterA1 _ _ _ _ _ _ _ _ _ _ _ _ _ _ _ _) | (with_reducible show CompOut _ _ _ _ _ _ _ _ _) | (with_reducible show IterF _ _ _ _ _ _ _ _ _ _ _) | (with_reducible show ForOut _ _ _ _ _ _ _ _ _))); first | (k_unfold; (try dsimp only)) | ((with_reducible refine item_shape ?_); k_dflt (refine item_at (hs := by with_unfolding_all rfl) (by k_asm) (by k_mem) (by assumption) (by first | (with_reducible exact Int.natCast_nonneg _) | (with_reducible assumption) | decide | lia) (by first | (with_reducible assumption) | decide | lia) ?_)) | ((with_reducible refine for_shape ?_); k_dflt (refine ForF (hs := by intro _; rfl) (by k_asm) (by rfl) (by rfl) (by with_unfolding_all passes_own) ?_)) | ((with_reducible show wpAny _ _ (call (Value.builtin "len") [Value.ref _]) _ _ _); k_dflt (refine kst_len (by k_asm) (by k_mem) (by first | assumption | rfl) (by lia) ?_)) | ((with_reducible refine floordiv_int ?kbe ?_ (Or.inl (PyProof.noPylong_of_log2 ?kbp))); (case kbe => first | assumption | lia); (case kbp => assumption)) | walk1 | (dsimp only; walk1) | (leave1; (try dsimp only)) | fail "no step")
  exact hret _ _ _ _ (by k_asm) (by k_asm) (PostQ.mk (by ktn_lt) rfl rfl)
theorem t_shape (w : World) (mean : ExcName → Option Value) (mg mb : Str → Option Value) (led : List (Addr × Obj)) (G : Addr) (kG : Nat) (gs : List Value) (r0 : Addr) (k0 : Nat) (cs0 : List Value) (mG : (G, ({ cls := .type "list", data := .seq (List.toArray gs) kG } : Obj)) ∈ led) (hx0 : gs[(0 : Int).toNat]? = some (.ref r0)) (m0 : (r0, ({ cls := .type "list", data := .seq (List.toArray cs0) k0 } : Obj)) ∈ led) (h1 : gs.length < 2 ^ 20) (h2 : cs0.length < 2 ^ 20) :
    Tell w mean mg mb 65 2 led [.ref G] (fun led' r => ∃ x t u, r = .ref x ∧ AllLt x led ∧ led' = (x, { cls := .type "tuple", data := .seq #[.int (gs.length : Nat) t, .int (cs0.length : Nat) u] }) :: led) := by
  intro dp un gd cn cs a₁ ccd cl outer A₀ base h₀ L m s Q E B F X N T hk hd hu hret
  refine wpAny_call ?_
  k_dflt (refine' code_def (binds := [(Str.ofString "grid", .ref G)]) ?k1 ?k2 ?k3 ?k4 ?k5 ?kA ?kF ?kK ?k6 ?k7 ?k8 ?k9 ?kB ?_ ?c2 ?c3 ?c4 ?c5; (case kA => exact rfl); (case kF => exact rfl); (case kK => first | exact rfl | assumption); (case k1 => k_asm); (case k2 => k_asm); (case k3 => k_asm); (case k4 => k_asm); (case k5 => k_asm); (case k6 => k_is); (case k7 => k_is); (case k8 => ktr_room); (case k9 => exact BindsTo.of_eq rfl); (case c5 => decide); (case kB => exact locs rfl); (case c2 => exact rfl); (case c3 => exact rfl); (case c4 => exact rfl); k_whole; intro g' L' h' FG' F' N' B' X' T'; (try dsimp only); (try k_fold))
  have hpos : 0 < gs.length := (List.getElem?_eq_some_iff.mp hx0).1
  repeat' ((fail_if_success (first | (with_reducible refine stop_ref ?_) | (with_reducible refine stop_lc ?_) | (with_reducible refine stop_alc ?_) | (with_reducible refine stop_zip ?_) | (with_reducible show IterE1 _ _ _ _ _ _ _ _ _ _ _ _ _ _ _) | (with_reducible show IterA1 _ _ _ _ _ _ _ _ _ _ _ _ _ _ _ _) | (with_reducible show CompOut _ _ _ _ _ _ _ _ _) | (with_reducible show IterF _ _ _ _ _ _ _ _ _ _ _) | (with_reducible show ForOut _ _ _ _ _ _ _ _ _))); first | (k_unfold; (try dsimp only)) | ((with_reducible refine item_shape ?_); k_dflt (refine item_at (hs := by with_unfolding_all rfl) (by k_asm) (by k_mem) (by assumption) (by first | (with_reducible exact Int.natCast_nonneg _) | (with_reducible assumption) | decide | lia) (by first | (with_reducible assumption) | decide | lia) ?_)) | ((with_reducible refine for_shape ?_); k_dflt (refine ForF (hs := by intro _; rfl) (by k_asm) (by rfl) (by rfl) (by with_unfolding_all passes_own) ?_)) | ((with_reducible show wpAny _ _ (call (Value.builtin "len") [Value.ref _]) _ _ _); k_dflt (refine kst_len (by k_asm) (by k_mem) (by first | assumption | rfl) (by lia) ?_)) | ((with_reducible refine floordiv_int ?kbe ?_ (Or.inl (PyProof.noPylong_of_log2 ?kbp))); (case kbe => first | assumption | lia); (case kbp => assumption)) | walk1 | (dsimp only; walk1) | (leave1; (try dsimp only)) | fail "no step")
  all_goals first
    | exact hret _ _ _ _ (by k_asm) (by k_asm) ⟨_, _, _, rfl, by ktn_lt, rfl⟩
    | (exfalso; lia)
section
variable {w : World} {mean : ExcName → Option Value} {mg mb : Str → Option Value} {fa : Addr} {need : Nat} {led : List (Addr × Obj)} {vs : List Value} {dp un : Nat} {gd : Option (List Code)} {cn : Str} {cs : Scope} {a : Addr} {ccd : Value} {cl : List (Str × Addr)} {outer : List Env} {A₀ : Around} {base h₀ : Heap} {L : Addr} {m : Str → Option Value} {s : Shared} {Q E : Value → Shared → Prop}
/-- the call gives a new list in new things -/
theorem Tell.goM {P : List (Addr × Obj) → List Value → Prop} (N : News h₀ L s.heap led) (B : Below A₀ base outer h₀) (F : Fr h₀ L s.heap m) (X : (Mine.hd.heap_39 w.params).In h₀) (T : TopP mean mg mb h₀) (hk : cs.kind = .function) (C : Tell w mean mg mb fa need led vs (fun led' v => ∃ tl R rs k, v = .ref R ∧ led' = tl ++ led ∧ (∀ p ∈ tl, ∀ q ∈ led, q.1 < p.1) ∧ (R, ({ cls := .type "list", data := .seq (List.toArray rs) k } : Obj)) ∈ tl ∧ P tl rs))
    (ret : ∀ tl R rs k h' tk', (∀ p ∈ tl, ∀ q ∈ led, q.1 < p.1) → (R, ({ cls := .type "list", data := .seq (List.toArray rs) k } : Obj)) ∈ tl → P tl rs → Fr h₀ L h' m → News h₀ L h' (tl ++ led) → Q (.ref R) { s with heap := h', toks := tk' }) (hd : dp + need < recursionLimit) (hu : un + 8 * need < cLine) : wpAny (model PR w) (ktrTop dp un gd cn cs L a ccd cl outer) (call (.ref fa) vs) Q E s := Tell.use N B F X T hk C hd hu fun r led' h' tk' F' N' P9 => by
  obtain ⟨tl, R, rs, k, rfl, rfl, ht, hm, hP⟩ := P9
  exact ret tl R rs k h' tk' ht hm hP F' N'
/-- what solved_rows gives -/
theorem Tell.goV {S : Mat × Rat} (N : News h₀ L s.heap led) (B : Below A₀ base outer h₀) (F : Fr h₀ L s.heap m) (X : (Mine.hd.heap_39 w.params).In h₀) (T : TopP mean mg mb h₀) (hk : cs.kind = .function) (C : Tell w mean mg mb fa need led vs (fun led' v => Ext led led' ∧ ∃ x R' kR' T rs' t u, v = .ref x ∧ (x, ({ cls := .type "tuple", data := .seq #[.ref R', .ref T] } : Obj)) ∈ led' ∧ (R', ({ cls := .type "list", data := .seq (List.toArray rs') kR' } : Obj)) ∈ led' ∧ Rows led' rs' S.1 ∧ (T, ({ cls := .type "tuple", data := .seq #[.int S.2.num t, .int (S.2.den : Nat) u] } : Obj)) ∈ led'))
    (ret : ∀ tl x R' kR' T rs' t u h' tk', (∀ p ∈ tl, ∀ q ∈ led, q.1 < p.1) → (x, ({ cls := .type "tuple", data := .seq #[.ref R', .ref T] } : Obj)) ∈ tl ++ led → (R', ({ cls := .type "list", data := .seq (List.toArray rs') kR' } : Obj)) ∈ tl ++ led → Rows (tl ++ led) rs' S.1 → (T, ({ cls := .type "tuple", data := .seq #[.int S.2.num t, .int (S.2.den : Nat) u] } : Obj)) ∈ tl ++ led → Fr h₀ L h' m → News h₀ L h' (tl ++ led) → Q (.ref x) { s with heap := h', toks := tk' }) (hd : dp + need < recursionLimit) (hu : un + 8 * need < cLine) : wpAny (model PR w) (ktrTop dp un gd cn cs L a ccd cl outer) (call (.ref fa) vs) Q E s := Tell.use N B F X T hk C hd hu fun r led' h' tk' F' N' P9 => by
  obtain ⟨⟨tl, rfl, ht⟩, x, R', kR', T', rs', t, u, rfl, h1, h2, h3, h4⟩ := P9
  exact ret tl x R' kR' T' rs' t u h' tk' ht h1 h2 h3 h4 F' N'
/-- the call gives a fraction that lies somewhere -/
theorem Tell.goS {q : Rat} (N : News h₀ L s.heap led) (B : Below A₀ base outer h₀) (F : Fr h₀ L s.heap m) (X : (Mine.hd.heap_39 w.params).In h₀) (T : TopP mean mg mb h₀) (hk : cs.kind = .function) (C : Tell w mean mg mb fa need led vs (fun led' v => Ext led led' ∧ ∃ y t u, v = .ref y ∧ (y, ({ cls := .type "tuple", data := .seq #[.int q.num t, .int (q.den : Nat) u] } : Obj)) ∈ led'))
    (ret : ∀ tl y t u h' tk', (y, ({ cls := .type "tuple", data := .seq #[.int q.num t, .int (q.den : Nat) u] } : Obj)) ∈ tl ++ led → Fr h₀ L h' m → News h₀ L h' (tl ++ led) → Q (.ref y) { s with heap := h', toks := tk' }) (hd : dp + need < recursionLimit) (hu : un + 8 * need < cLine) : wpAny (model PR w) (ktrTop dp un gd cn cs L a ccd cl outer) (call (.ref fa) vs) Q E s := Tell.use N B F X T hk C hd hu fun r led' h' tk' F' N' P9 => by
  obtain ⟨⟨tl, rfl, -⟩, y, t, u, rfl, hm⟩ := P9
  exact ret tl y t u h' tk' hm F' N'
/-- the call gives a new grid -/
theorem Tell.goG {M : List (List Int)} (N : News h₀ L s.heap led) (B : Below A₀ base outer h₀) (F : Fr h₀ L s.heap m) (X : (Mine.hd.heap_39 w.params).In h₀) (T : TopP mean mg mb h₀) (hk : cs.kind = .function) (C : Tell w mean mg mb fa need led vs (fun led' v => Ext led led' ∧ ∃ R rs k, v = .ref R ∧ (R, ({ cls := .type "list", data := .seq (List.toArray rs) k } : Obj)) ∈ led' ∧ IntRows led' rs M ∧ ∀ q ∈ led, q.1 < R ∧ Value.ref q.1 ∉ rs))
    (ret : ∀ tl R rs k h' tk', (∀ p ∈ tl, ∀ q ∈ led, q.1 < p.1) → (R, ({ cls := .type "list", data := .seq (List.toArray rs) k } : Obj)) ∈ tl ++ led → IntRows (tl ++ led) rs M → (∀ q ∈ led, q.1 < R ∧ Value.ref q.1 ∉ rs) → Fr h₀ L h' m → News h₀ L h' (tl ++ led) → Q (.ref R) { s with heap := h', toks := tk' }) (hd : dp + need < recursionLimit) (hu : un + 8 * need < cLine) : wpAny (model PR w) (ktrTop dp un gd cn cs L a ccd cl outer) (call (.ref fa) vs) Q E s := Tell.use N B F X T hk C hd hu fun r led' h' tk' F' N' P9 => by
  obtain ⟨⟨tl, rfl, ht⟩, R, rs, k, rfl, h1, h2, h3⟩ := P9
  exact ret tl R rs k h' tk' ht h1 h2 h3 F' N'
end
def GridJ (base led : List (Addr × Obj)) (M : List (List Int)) (j : Nat) (ys : List Value) (led₁ : List (Addr × Obj)) : Prop := ∃ tl, led₁ = tl ++ base ∧ (∀ p ∈ tl, ∀ q ∈ led, q.1 < p.1) ∧ RowsI tl ys (ratM (M.take j))
def CellJ (base : List (Addr × Obj)) (zs : List Int) (j : Nat) (ys : List Value) (led₁ : List (Addr × Obj)) : Prop := ∃ tl, led₁ = tl ++ base ∧ (∀ p ∈ tl, ∀ q ∈ base, q.1 < p.1) ∧ Cells tl ys ((zs.take j).map fun z => ((z : Int) : Rat))
theorem t_square (w : World) (mean : ExcName → Option Value) (mg mb : Str → Option Value) (led : List (Addr × Obj)) (M : List (List Int)) (n : Nat) (G : Addr) (kG : Nat) (gs : List Value) (mG : (G, ({ cls := .type "list", data := .seq (List.toArray gs) kG } : Obj)) ∈ led) (hM : IntRows led gs M) (hn : 1 ≤ n) (hn2 : n < 2 ^ 20) (hl : M.length = n) (hw : ∀ zs ∈ M, zs.length = n) :
    Tell w mean mg mb 136 5 led [.ref G] (fun led' v => ∃ tl R rs k, v = .ref R ∧ led' = tl ++ led ∧ (∀ p ∈ tl, ∀ q ∈ led, q.1 < p.1) ∧ (R, ({ cls := .type "list", data := .seq (List.toArray rs) k } : Obj)) ∈ tl ∧ Rows tl rs (ratM M)) := by
  intro dp un gd cn cs a₁ ccd cl outer A₀ base h₀ L m s Q E B F X N T hk hd hu hret
  refine wpAny_call ?_
  k_dflt (refine' code_def (binds := [(Str.ofString "grid", .ref G)]) ?k1 ?k2 ?k3 ?k4 ?k5 ?kA ?kF ?kK ?k6 ?k7 ?k8 ?k9 ?kB ?_ ?c2 ?c3 ?c4 ?c5; (case kA => exact rfl); (case kF => exact rfl); (case kK => first | exact rfl | assumption); (case k1 => k_asm); (case k2 => k_asm); (case k3 => k_asm); (case k4 => k_asm); (case k5 => k_asm); (case k6 => k_is); (case k7 => k_is); (case k8 => ktr_room); (case k9 => exact BindsTo.of_eq rfl); (case c5 => decide); (case kB => exact locs rfl); (case c2 => exact rfl); (case c3 => exact rfl); (case c4 => exact rfl); k_whole; intro g' L' h' FG' F' N' B' X' T'; (try dsimp only); (try k_fold))
  have hgl : gs.length = n := hM.length.trans hl
  obtain ⟨z0, hz0⟩ : ∃ zs, M[0]? = some zs := ⟨M[0], List.getElem?_eq_getElem (by lia)⟩
  obtain ⟨v0, hv0, r0, k0, cs0, rfl, hm0, hc0⟩ := hM.at hz0
  have hl0 : cs0.length = n := hc0.length.trans (hw _ (List.mem_of_getElem? hz0))
  have hx0 : gs[(0 : Int).toNat]? = some (.ref r0) := hv0
  repeat' ((fail_if_success (first | (with_reducible refine stop_ref ?_) | (with_reducible refine stop_lc ?_) | (with_reducible refine stop_alc ?_) | (with_reducible refine stop_zip ?_) | (with_reducible show IterE1 _ _ _ _ _ _ _ _ _ _ _ _ _ _ _) | (with_reducible show IterA1 _ _ _ _ _ _ _ _ _ _ _ _ _ _ _ _) | (with_reducible show CompOut _ _ _ _ _ _ _ _ _) | (with_reducible show IterF _ _ _ _ _ _ _ _ _ _ _) | (with_reducible show ForOut _ _ _ _ _ _ _ _ _))); first | (k_unfold; (try dsimp only)) | ((with_reducible refine item_shape ?_); k_dflt (refine item_at (hs := by with_unfolding_all rfl) (by k_asm) (by k_mem) (by assumption) (by first | (with_reducible exact Int.natCast_nonneg _) | (with_reducible assumption) | decide | lia) (by first | (with_reducible assumption) | decide | lia) ?_)) | ((with_reducible refine for_shape ?_); k_dflt (refine ForF (hs := by intro _; rfl) (by k_asm) (by rfl) (by rfl) (by with_unfolding_all passes_own) ?_)) | ((with_reducible show wpAny _ _ (call (Value.builtin "len") [Value.ref _]) _ _ _); k_dflt (refine kst_len (by k_asm) (by k_mem) (by first | assumption | rfl) (by lia) ?_)) | ((with_reducible refine floordiv_int ?kbe ?_ (Or.inl (PyProof.noPylong_of_log2 ?kbp))); (case kbe => first | assumption | lia); (case kbp => assumption)) | walk1 | (dsimp only; walk1) | (leave1; (try dsimp only)) | fail "no step")
  refine Tell.goN (N := by k_asm) (B := by k_asm) (F := by k_asm) (X := by k_asm) (T := by k_asm) (hk := by first | exact rfl | assumption) (C := t_shape _ _ _ _ _ _ _ _ _ _ _ (by k_mem) (by assumption) (by k_mem) (by lia) (by lia)) (ret := ?_) (hd := by first | decide | exact room1 (by assumption) (by decide) | ktr_room) (hu := by first | decide | exact units1 (by assumption) (by decide) | ktr_units)
  intro xA tA uA hA tkA lA FA NA
  (try dsimp only)
  (try k_fold)
  repeat' ((fail_if_success (first | (with_reducible refine stop_ref ?_) | (with_reducible refine stop_lc ?_) | (with_reducible refine stop_alc ?_) | (with_reducible refine stop_zip ?_) | (with_reducible show IterE1 _ _ _ _ _ _ _ _ _ _ _ _ _ _ _) | (with_reducible show IterA1 _ _ _ _ _ _ _ _ _ _ _ _ _ _ _ _) | (with_reducible show CompOut _ _ _ _ _ _ _ _ _) | (with_reducible show IterF _ _ _ _ _ _ _ _ _ _ _) | (with_reducible show ForOut _ _ _ _ _ _ _ _ _))); first | (k_unfold; (try dsimp only)) | ((with_reducible refine item_shape ?_); k_dflt (refine item_at (hs := by with_unfolding_all rfl) (by k_asm) (by k_mem) (by assumption) (by first | (with_reducible exact Int.natCast_nonneg _) | (with_reducible assumption) | decide | lia) (by first | (with_reducible assumption) | decide | lia) ?_)) | ((with_reducible refine for_shape ?_); k_dflt (refine ForF (hs := by intro _; rfl) (by k_asm) (by rfl) (by rfl) (by with_unfolding_all passes_own) ?_)) | ((with_reducible show wpAny _ _ (call (Value.builtin "len") [Value.ref _]) _ _ _); k_dflt (refine kst_len (by k_asm) (by k_mem) (by first | assumption | rfl) (by lia) ?_)) | ((with_reducible refine floordiv_int ?kbe ?_ (Or.inl (PyProof.noPylong_of_log2 ?kbp))); (case kbe => first | assumption | lia); (case kbp => assumption)) | walk1 | (dsimp only; walk1) | (leave1; (try dsimp only)) | fail "no step")
  · exfalso; lia
  · exfalso; lia
  rename_i hB hC hD FD ND tkB ha hb
  have hXA := lt_of_all lA
  k_dflt (refine ListComp1E (hs := by intro _; rfl) (by k_asm) (by with_unfolding_all rfl) (by decide) (by rfl) (by decide) (by rfl) ?_)
  repeat' ((fail_if_success (first | (with_reducible refine stop_ref ?_) | (with_reducible refine stop_lc ?_) | (with_reducible refine stop_alc ?_) | (with_reducible refine stop_zip ?_) | (with_reducible show IterE1 _ _ _ _ _ _ _ _ _ _ _ _ _ _ _) | (with_reducible show IterA1 _ _ _ _ _ _ _ _ _ _ _ _ _ _ _ _) | (with_reducible show CompOut _ _ _ _ _ _ _ _ _) | (with_reducible show IterF _ _ _ _ _ _ _ _ _ _ _) | (with_reducible show ForOut _ _ _ _ _ _ _ _ _))); first | (k_unfold; (try dsimp only)) | ((with_reducible refine item_shape ?_); k_dflt (refine item_at (hs := by with_unfolding_all rfl) (by k_asm) (by k_mem) (by assumption) (by first | (with_reducible exact Int.natCast_nonneg _) | (with_reducible assumption) | decide | lia) (by first | (with_reducible assumption) | decide | lia) ?_)) | ((with_reducible refine for_shape ?_); k_dflt (refine ForF (hs := by intro _; rfl) (by k_asm) (by rfl) (by rfl) (by with_unfolding_all passes_own) ?_)) | ((with_reducible show wpAny _ _ (call (Value.builtin "len") [Value.ref _]) _ _ _); k_dflt (refine kst_len (by k_asm) (by k_mem) (by first | assumption | rfl) (by lia) ?_)) | ((with_reducible refine floordiv_int ?kbe ?_ (Or.inl (PyProof.noPylong_of_log2 ?kbp))); (case kbe => first | assumption | lia); (case kbp => assumption)) | walk1 | (dsimp only; walk1) | (leave1; (try dsimp only)) | fail "no step")
  refine IterE1.list rfl FD ND (List.mem_cons_of_mem _ mG) (by rw [List.size_toArray, sizeLine_eq]; lia) (GridJ _ led M) ⟨[], rfl, (fun _ h => nomatch h), .nil⟩ ?_ ?_
  · intro j v ys led₁ own C oC m₃ h tk E' hj hv hJ hC hns hxx FV NV
    refine hide fun H9 hH9 => ?_
    obtain ⟨tl, rfl, ht, hJ⟩ := hJ
    obtain ⟨zs, hzs, rr, kr, cs, rfl, hmr, hcs⟩ := hM.get (by simpa using hv)
    have hzl := hw _ (List.mem_of_getElem? hzs)
    have hcl := hcs.length
    refine hH9 ?_
    clear hH9 H9
    clear FD ND
    k_dflt (refine ListComp1E (hs := by intro _; rfl) (by k_asm) (by with_unfolding_all rfl) (by decide) (by rfl) (by decide) (by rfl) ?_)
    repeat' ((fail_if_success (first | (with_reducible refine stop_ref ?_) | (with_reducible refine stop_lc ?_) | (with_reducible refine stop_alc ?_) | (with_reducible refine stop_zip ?_) | (with_reducible show IterE1 _ _ _ _ _ _ _ _ _ _ _ _ _ _ _) | (with_reducible show IterA1 _ _ _ _ _ _ _ _ _ _ _ _ _ _ _ _) | (with_reducible show CompOut _ _ _ _ _ _ _ _ _) | (with_reducible show IterF _ _ _ _ _ _ _ _ _ _ _) | (with_reducible show ForOut _ _ _ _ _ _ _ _ _))); first | (k_unfold; (try dsimp only)) | ((with_reducible refine item_shape ?_); k_dflt (refine item_at (hs := by with_unfolding_all rfl) (by k_asm) (by k_mem) (by assumption) (by first | (with_reducible exact Int.natCast_nonneg _) | (with_reducible assumption) | decide | lia) (by first | (with_reducible assumption) | decide | lia) ?_)) | ((with_reducible refine for_shape ?_); k_dflt (refine ForF (hs := by intro _; rfl) (by k_asm) (by rfl) (by rfl) (by with_unfolding_all passes_own) ?_)) | ((with_reducible show wpAny _ _ (call (Value.builtin "len") [Value.ref _]) _ _ _); k_dflt (refine kst_len (by k_asm) (by k_mem) (by first | assumption | rfl) (by lia) ?_)) | ((with_reducible refine floordiv_int ?kbe ?_ (Or.inl (PyProof.noPylong_of_log2 ?kbp))); (case kbe => first | assumption | lia); (case kbp => assumption)) | walk1 | (dsimp only; walk1) | (leave1; (try dsimp only)) | fail "no step")
    refine IterE1.list rfl FV NV (List.mem_append_right _ (List.mem_append_right _ (List.mem_cons_of_mem _ hmr))) (by rw [List.size_toArray, sizeLine_eq]; lia) (CellJ _ zs) ⟨[], rfl, (fun _ h => nomatch h), .nil⟩ ?_ ?_
    · intro j2 v2 ys2 led₂ own2 C2 oC2 m₄ h2 tk2 E2 hj2 hv2 hJ2 hC2 hns2 hxx2 FV2 NV2
      refine hide fun H9 hH9 => ?_
      obtain ⟨tl2, rfl, ht2, hJ2⟩ := hJ2
      obtain ⟨z, tz, rfl, hz⟩ := hcs.get (by simpa using hv2)
      refine hH9 ?_
      clear hH9 H9
      clear FV NV
      repeat' ((fail_if_success (first | (with_reducible refine stop_ref ?_) | (with_reducible refine stop_lc ?_) | (with_reducible refine stop_alc ?_) | (with_reducible refine stop_zip ?_) | (with_reducible show IterE1 _ _ _ _ _ _ _ _ _ _ _ _ _ _ _) | (with_reducible show IterA1 _ _ _ _ _ _ _ _ _ _ _ _ _ _ _ _) | (with_reducible show CompOut _ _ _ _ _ _ _ _ _) | (with_reducible show IterF _ _ _ _ _ _ _ _ _ _ _) | (with_reducible show ForOut _ _ _ _ _ _ _ _ _))); first | (k_unfold; (try dsimp only)) | ((with_reducible refine item_shape ?_); k_dflt (refine item_at (hs := by with_unfolding_all rfl) (by k_asm) (by k_mem) (by assumption) (by first | (with_reducible exact Int.natCast_nonneg _) | (with_reducible assumption) | decide | lia) (by first | (with_reducible assumption) | decide | lia) ?_)) | ((with_reducible refine for_shape ?_); k_dflt (refine ForF (hs := by intro _; rfl) (by k_asm) (by rfl) (by rfl) (by with_unfolding_all passes_own) ?_)) | ((with_reducible show wpAny _ _ (call (Value.builtin "len") [Value.ref _]) _ _ _); k_dflt (refine kst_len (by k_asm) (by k_mem) (by first | assumption | rfl) (by lia) ?_)) | ((with_reducible refine floordiv_int ?kbe ?_ (Or.inl (PyProof.noPylong_of_log2 ?kbp))); (case kbe => first | assumption | lia); (case kbp => assumption)) | walk1 | (dsimp only; walk1) | (leave1; (try dsimp only)) | fail "no step")
      refine Tell.goQ (N := by k_asm) (B := by k_asm) (F := by k_asm) (X := by k_asm) (T := by k_asm) (hk := by first | exact rfl | assumption) (C := t_fracof _ _ _ _ _ _ _) (ret := ?_) (hd := by first | decide | exact room1 (by assumption) (by decide) | ktr_room) (hu := by first | decide | exact units1 (by assumption) (by decide) | ktr_units)
      intro x9 t9 u9 h9 tk9 l9 F9 N9
      (try dsimp only)
      (try k_fold)
      repeat' ((fail_if_success (first | (with_reducible refine stop_ref ?_) | (with_reducible refine stop_lc ?_) | (with_reducible refine stop_alc ?_) | (with_reducible refine stop_zip ?_) | (with_reducible show IterE1 _ _ _ _ _ _ _ _ _ _ _ _ _ _ _) | (with_reducible show IterA1 _ _ _ _ _ _ _ _ _ _ _ _ _ _ _ _) | (with_reducible show CompOut _ _ _ _ _ _ _ _ _) | (with_reducible show IterF _ _ _ _ _ _ _ _ _ _ _) | (with_reducible show ForOut _ _ _ _ _ _ _ _ _))); first | (k_unfold; (try dsimp only)) | ((with_reducible refine item_shape ?_); k_dflt (refine item_at (hs := by with_unfolding_all rfl) (by k_asm) (by k_mem) (by assumption) (by first | (with_reducible exact Int.natCast_nonneg _) | (with_reducible assumption) | decide | lia) (by first | (with_reducible assumption) | decide | lia) ?_)) | ((with_reducible refine for_shape ?_); k_dflt (refine ForF (hs := by intro _; rfl) (by k_asm) (by rfl) (by rfl) (by with_unfolding_all passes_own) ?_)) | ((with_reducible show wpAny _ _ (call (Value.builtin "len") [Value.ref _]) _ _ _); k_dflt (refine kst_len (by k_asm) (by k_mem) (by first | assumption | rfl) (by lia) ?_)) | ((with_reducible refine floordiv_int ?kbe ?_ (Or.inl (PyProof.noPylong_of_log2 ?kbp))); (case kbe => first | assumption | lia); (case kbp => assumption)) | walk1 | (dsimp only; walk1) | (leave1; (try dsimp only)) | fail "no step")
      refine compOut_one (by k_asm) (by k_asm) (fun p hp => hp) (by assumption) ⟨_ :: tl2, rfl, fun p hp q hq => ?_, ?_⟩
      · rcases List.mem_cons.mp hp with rfl | hp
        · exact lt_of_all (by assumption) q (List.mem_append_right _ (List.mem_append_right _ hq))
        · exact ht2 p hp q hq
      · rw [take_map_succ' hz]
        exact (hJ2.mono fun p hp => List.mem_cons_of_mem _ hp).snoc List.mem_cons_self
    · intro D h2 tk2 ys2 led₂ FV2 NV2 hD hlt hlen hJ2
      refine hide fun H9 hH9 => ?_
      obtain ⟨tl2, rfl, ht2, hJ2⟩ := hJ2
      refine hH9 ?_
      clear hH9 H9
      rw [show cs.toArray.size = zs.length by rw [List.size_toArray, hcl], List.take_length] at hJ2
      have hr : RowIn ((D, LCg.lst ys2) :: tl2) (.ref D) (zs.map fun z => ((z : Int) : Rat)) := ⟨D, _, ys2, rfl, List.mem_cons_self, hJ2.mono fun p hp => List.mem_cons_of_mem _ hp⟩
      refine compOut_many (tl := (D, LCg.lst ys2) :: tl2) FV2 NV2 (fun p hp q hq => ?_) ⟨((D, LCg.lst ys2) :: tl2) ++ tl, (List.append_assoc ..).symm, fun p hp q hq => ?_, ?_⟩
      · rcases List.mem_cons.mp hp with rfl | hp
        · exact hlt q (List.mem_append_left _ hq)
        · exact ht2 p hp q (List.mem_append_left _ hq)
      · rcases List.mem_append.mp hp with hp | hp
        · rcases List.mem_cons.mp hp with rfl | hp
          · exact hlt q (List.mem_append_right _ (List.mem_append_right _ (List.mem_cons_of_mem _ hq)))
          · exact ht2 p hp q (List.mem_append_right _ (List.mem_append_right _ (List.mem_cons_of_mem _ hq)))
        · exact ht p hp q hq
      · unfold ratM
        rw [take_map_succ' hzs]
        exact (hJ.mono fun p hp => List.mem_append_right _ hp).snoc (hr.mono fun p hp => List.mem_append_left _ hp)
  · intro D h tk ys led₁ FV NV hD hlt hlen hJ
    refine hide fun H9 hH9 => ?_
    obtain ⟨tl, rfl, ht, hJ⟩ := hJ
    refine hH9 ?_
    clear hH9 H9
    rw [show gs.toArray.size = M.length by rw [List.size_toArray, hgl, hl], List.take_length] at hJ
    repeat' ((fail_if_success (first | (with_reducible refine stop_ref ?_) | (with_reducible refine stop_lc ?_) | (with_reducible refine stop_alc ?_) | (with_reducible refine stop_zip ?_) | (with_reducible show IterE1 _ _ _ _ _ _ _ _ _ _ _ _ _ _ _) | (with_reducible show IterA1 _ _ _ _ _ _ _ _ _ _ _ _ _ _ _ _) | (with_reducible show CompOut _ _ _ _ _ _ _ _ _) | (with_reducible show IterF _ _ _ _ _ _ _ _ _ _ _) | (with_reducible show ForOut _ _ _ _ _ _ _ _ _))); first | (k_unfold; (try dsimp only)) | ((with_reducible refine item_shape ?_); k_dflt (refine item_at (hs := by with_unfolding_all rfl) (by k_asm) (by k_mem) (by assumption) (by first | (with_reducible exact Int.natCast_nonneg _) | (with_reducible assumption) | decide | lia) (by first | (with_reducible assumption) | decide | lia) ?_)) | ((with_reducible refine for_shape ?_); k_dflt (refine ForF (hs := by intro _; rfl) (by k_asm) (by rfl) (by rfl) (by with_unfolding_all passes_own) ?_)) | ((with_reducible show wpAny _ _ (call (Value.builtin "len") [Value.ref _]) _ _ _); k_dflt (refine kst_len (by k_asm) (by k_mem) (by first | assumption | rfl) (by lia) ?_)) | ((with_reducible refine floordiv_int ?kbe ?_ (Or.inl (PyProof.noPylong_of_log2 ?kbp))); (case kbe => first | assumption | lia); (case kbp => assumption)) | walk1 | (dsimp only; walk1) | (leave1; (try dsimp only)) | fail "no step")
    refine hret _ (((D, LCg.lst ys) :: tl) ++ led) _ _ (by k_asm) (News.drop (news' := (D, LCg.lst ys) :: (tl ++ (xA, { cls := .type "tuple", data := .seq #[.int (gs.length : Nat) tA, .int (cs0.length : Nat) uA] }) :: led)) (by k_asm) fun p hp => ?_) ⟨(D, LCg.lst ys) :: tl, D, ys, _, rfl, rfl, fun p hp q hq => ?_, List.mem_cons_self, hJ.rows.mono fun p hp => List.mem_cons_of_mem _ hp⟩
    · rcases List.mem_append.mp hp with hp | hp
      · rcases List.mem_cons.mp hp with rfl | hp
        · exact List.mem_cons_self
        · exact List.mem_cons_of_mem _ (List.mem_append_left _ hp)
      · exact List.mem_cons_of_mem _ (List.mem_append_right _ (List.mem_cons_of_mem _ hp))
    · rcases List.mem_cons.mp hp with rfl | hp
      · exact hlt q (List.mem_cons_of_mem _ hq)
      · exact ht p hp q hq
theorem t_det (w : World) (mean : ExcName → Option Value) (mg mb : Str → Option Value) (led : List (Addr × Obj)) (M : List (List Int)) (n k : Nat) (D : Int) (G : Addr) (kG : Nat) (gs : List Value) (t : Tok) (mG : (G, ({ cls := .type "list", data := .seq (List.toArray gs) kG } : Obj)) ∈ led) (hM : IntRows led gs M) (hn : 1 ≤ n) (hl : M.length = n) (hw : ∀ zs ∈ M, zs.length = n) (hk1 : 1 ≤ k) (hz : ∀ zs ∈ M, ∀ z ∈ zs, z.natAbs < 2 ^ k) (hB : Bit k n ≤ 7000) (hn2 : n < 2 ^ 20) (hD : (solveM n n 0 (ratM M) 1).2 = (D : Rat)) (hlt : D.natAbs < 10 ^ 9) :
    Tell w mean mg mb 143 10 led [.ref G, .int 9 t] (fun led' r => ∃ y c i t3 t4, r = .ref y ∧ AllLt y led ∧ led' = (y, { cls := .type "tuple", data := .seq #[.int c t3, .int (i : Nat) t4] }) :: led ∧ c * 10 ^ i = D ∧ i ≤ 9) := by
  intro dp un gd cn cs a₁ ccd cl outer A₀ base h₀ L m s Q E B F X N T hk hd hu hret
  refine wpAny_call ?_
  k_dflt (refine' code_def (binds := [(Str.ofString "grid", .ref G), (Str.ofString "digits", .int 9 t)]) ?k1 ?k2 ?k3 ?k4 ?k5 ?kA ?kF ?kK ?k6 ?k7 ?k8 ?k9 ?kB ?_ ?c2 ?c3 ?c4 ?c5; (case kA => exact rfl); (case kF => exact rfl); (case kK => first | exact rfl | assumption); (case k1 => k_asm); (case k2 => k_asm); (case k3 => k_asm); (case k4 => k_asm); (case k5 => k_asm); (case k6 => k_is); (case k7 => k_is); (case k8 => ktr_room); (case k9 => exact BindsTo.of_eq rfl); (case c5 => decide); (case kB => exact locs rfl); (case c2 => exact rfl); (case c3 => exact rfl); (case c4 => exact rfl); k_whole; intro g' L' h' FG' F' N' B' X' T'; (try dsimp only); (try k_fold))
  repeat' ((fail_if_success (first | (with_reducible refine stop_ref ?_) | (with_reducible refine stop_lc ?_) | (with_reducible refine stop_alc ?_) | (with_reducible refine stop_zip ?_) | (with_reducible show IterE1 _ _ _ _ _ _ _ _ _ _ _ _ _ _ _) | (with_reducible show IterA1 _ _ _ _ _ _ _ _ _ _ _ _ _ _ _ _) | (with_reducible show CompOut _ _ _ _ _ _ _ _ _) | (with_reducible show IterF _ _ _ _ _ _ _ _ _ _ _) | (with_reducible show ForOut _ _ _ _ _ _ _ _ _))); first | (k_unfold; (try dsimp only)) | ((with_reducible refine item_shape ?_); k_dflt (refine item_at (hs := by with_unfolding_all rfl) (by k_asm) (by k_mem) (by assumption) (by first | (with_reducible exact Int.natCast_nonneg _) | (with_reducible assumption) | decide | lia) (by first | (with_reducible assumption) | decide | lia) ?_)) | ((with_reducible refine for_shape ?_); k_dflt (refine ForF (hs := by intro _; rfl) (by k_asm) (by rfl) (by rfl) (by with_unfolding_all passes_own) ?_)) | ((with_reducible show wpAny _ _ (call (Value.builtin "len") [Value.ref _]) _ _ _); k_dflt (refine kst_len (by k_asm) (by k_mem) (by first | assumption | rfl) (by lia) ?_)) | ((with_reducible refine floordiv_int ?kbe ?_ (Or.inl (PyProof.noPylong_of_log2 ?kbp))); (case kbe => first | assumption | lia); (case kbp => assumption)) | walk1 | (dsimp only; walk1) | (leave1; (try dsimp only)) | fail "no step")
  refine Tell.goM (N := by k_asm) (B := by k_asm) (F := by k_asm) (X := by k_asm) (T := by k_asm) (hk := by first | exact rfl | assumption) (C := t_square w mean mg mb _ M n G kG gs (by k_mem) hM hn hn2 hl hw) (ret := ?_) (hd := by first | decide | exact room1 (by assumption) (by decide) | ktr_room) (hu := by first | decide | exact units1 (by assumption) (by decide) | ktr_units)
  intro tl R rs kR h9 tk9 ht hmR hR F9 N9
  dsimp only
  repeat' ((fail_if_success (first | (with_reducible refine stop_ref ?_) | (with_reducible refine stop_lc ?_) | (with_reducible refine stop_alc ?_) | (with_reducible refine stop_zip ?_) | (with_reducible show IterE1 _ _ _ _ _ _ _ _ _ _ _ _ _ _ _) | (with_reducible show IterA1 _ _ _ _ _ _ _ _ _ _ _ _ _ _ _ _) | (with_reducible show CompOut _ _ _ _ _ _ _ _ _) | (with_reducible show IterF _ _ _ _ _ _ _ _ _ _ _) | (with_reducible show ForOut _ _ _ _ _ _ _ _ _))); first | (k_unfold; (try dsimp only)) | ((with_reducible refine item_shape ?_); k_dflt (refine item_at (hs := by with_unfolding_all rfl) (by k_asm) (by k_mem) (by assumption) (by first | (with_reducible exact Int.natCast_nonneg _) | (with_reducible assumption) | decide | lia) (by first | (with_reducible assumption) | decide | lia) ?_)) | ((with_reducible refine for_shape ?_); k_dflt (refine ForF (hs := by intro _; rfl) (by k_asm) (by rfl) (by rfl) (by with_unfolding_all passes_own) ?_)) | ((with_reducible show wpAny _ _ (call (Value.builtin "len") [Value.ref _]) _ _ _); k_dflt (refine kst_len (by k_asm) (by k_mem) (by first | assumption | rfl) (by lia) ?_)) | ((with_reducible refine floordiv_int ?kbe ?_ (Or.inl (PyProof.noPylong_of_log2 ?kbp))); (case kbe => first | assumption | lia); (case kbp => assumption)) | walk1 | (dsimp only; walk1) | (leave1; (try dsimp only)) | fail "no step")
  refine Tell.goV (N := by k_asm) (B := by k_asm) (F := by k_asm) (X := by k_asm) (T := by k_asm) (hk := by first | exact rfl | assumption) (C := t_solved w mean mg mb _ (ratM M) n n k R kR rs (List.mem_append_left _ hmR) (hR.mono fun p hp => List.mem_append_left _ hp) (ratM_wide hl hw) (Nat.le_refl n) (ratM_bits hk1 hz) hk1 hB hn2) (ret := ?_) (hd := by first | decide | exact room1 (by assumption) (by decide) | ktr_room) (hu := by first | decide | exact units1 (by assumption) (by decide) | ktr_units)
  intro tl2 x R2 kR2 T rs2 t5 u5 h8 tk8 ht2 hmx hmR2 hr2 hmT F8 N8
  rw [hD] at hmT
  have hmT' : (T, ({ cls := .type "tuple", data := .seq #[.int D t5, .int 1 u5] } : Obj)) ∈ tl2 ++ (tl ++ led) := hmT
  dsimp only
  repeat' ((fail_if_success (first | (with_reducible refine stop_ref ?_) | (with_reducible refine stop_lc ?_) | (with_reducible refine stop_alc ?_) | (with_reducible refine stop_zip ?_) | (with_reducible show IterE1 _ _ _ _ _ _ _ _ _ _ _ _ _ _ _) | (with_reducible show IterA1 _ _ _ _ _ _ _ _ _ _ _ _ _ _ _ _) | (with_reducible show CompOut _ _ _ _ _ _ _ _ _) | (with_reducible show IterF _ _ _ _ _ _ _ _ _ _ _) | (with_reducible show ForOut _ _ _ _ _ _ _ _ _))); first | (k_unfold; (try dsimp only)) | ((with_reducible refine item_shape ?_); k_dflt (refine item_at (hs := by with_unfolding_all rfl) (by k_asm) (by k_mem) (by assumption) (by first | (with_reducible exact Int.natCast_nonneg _) | (with_reducible assumption) | decide | lia) (by first | (with_reducible assumption) | decide | lia) ?_)) | ((with_reducible refine for_shape ?_); k_dflt (refine ForF (hs := by intro _; rfl) (by k_asm) (by rfl) (by rfl) (by with_unfolding_all passes_own) ?_)) | ((with_reducible show wpAny _ _ (call (Value.builtin "len") [Value.ref _]) _ _ _); k_dflt (refine kst_len (by k_asm) (by k_mem) (by first | assumption | rfl) (by lia) ?_)) | ((with_reducible refine floordiv_int ?kbe ?_ (Or.inl (PyProof.noPylong_of_log2 ?kbp))); (case kbe => first | assumption | lia); (case kbp => assumption)) | walk1 | (dsimp only; walk1) | (leave1; (try dsimp only)) | fail "no step")
  refine Tell.goD (N := by k_asm) (B := by k_asm) (F := by k_asm) (X := by k_asm) (T := by k_asm) (hk := by first | exact rfl | assumption) (C := t_decimal w mean mg mb _ D T t5 u5 _ hmT' hlt) (ret := ?_) (hd := by first | decide | exact room1 (by assumption) (by decide) | ktr_room) (hu := by first | decide | exact units1 (by assumption) (by decide) | ktr_units)
  intro y c i t3 t4 h7 tk7 hly hc hi F7 N7
  dsimp only
  repeat' ((fail_if_success (first | (with_reducible refine stop_ref ?_) | (with_reducible refine stop_lc ?_) | (with_reducible refine stop_alc ?_) | (with_reducible refine stop_zip ?_) | (with_reducible show IterE1 _ _ _ _ _ _ _ _ _ _ _ _ _ _ _) | (with_reducible show IterA1 _ _ _ _ _ _ _ _ _ _ _ _ _ _ _ _) | (with_reducible show CompOut _ _ _ _ _ _ _ _ _) | (with_reducible show IterF _ _ _ _ _ _ _ _ _ _ _) | (with_reducible show ForOut _ _ _ _ _ _ _ _ _))); first | (k_unfold; (try dsimp only)) | ((with_reducible refine item_shape ?_); k_dflt (refine item_at (hs := by with_unfolding_all rfl) (by k_asm) (by k_mem) (by assumption) (by first | (with_reducible exact Int.natCast_nonneg _) | (with_reducible assumption) | decide | lia) (by first | (with_reducible assumption) | decide | lia) ?_)) | ((with_reducible refine for_shape ?_); k_dflt (refine ForF (hs := by intro _; rfl) (by k_asm) (by rfl) (by rfl) (by with_unfolding_all passes_own) ?_)) | ((with_reducible show wpAny _ _ (call (Value.builtin "len") [Value.ref _]) _ _ _); k_dflt (refine kst_len (by k_asm) (by k_mem) (by first | assumption | rfl) (by lia) ?_)) | ((with_reducible refine floordiv_int ?kbe ?_ (Or.inl (PyProof.noPylong_of_log2 ?kbp))); (case kbe => first | assumption | lia); (case kbp => assumption)) | walk1 | (dsimp only; walk1) | (leave1; (try dsimp only)) | fail "no step")
  refine hret _ ((y, { cls := .type "tuple", data := .seq #[.int c t3, .int (i : Nat) t4] }) :: led) _ _ (by k_asm) (News.drop (news' := (y, { cls := .type "tuple", data := .seq #[.int c t3, .int (i : Nat) t4] }) :: (tl2 ++ (tl ++ led))) (by k_asm) fun p hp => ?_) ⟨y, c, i, t3, t4, rfl, ?_, rfl, hc, hi⟩
  · rcases List.mem_cons.mp hp with rfl | hp
    · exact List.mem_cons_self
    · exact List.mem_cons_of_mem _ (List.mem_append_right _ (List.mem_append_right _ hp))
  · exact allLt_drop (allLt_drop hly)
theorem t_draw (w : World) (mean : ExcName → Option Value) (mg mb : Str → Option Value) (led : List (Addr × Obj)) (P Y : Addr) (kP kY : Nat) (vs : List Value) (ns : List Int) (i : Nat) (below : Int) (ti tb : Tok) (mY : (Y, ({ cls := .type "list", data := .seq (List.toArray vs) kY } : Obj)) ∈ led) (hv : Ints vs ns) (off : OwnOff led [P]) (hl : ns.length ≤ 8) (hi : i ≤ 50) (hb : 1 ≤ below) :
    Tell w mean mg mb 150 2 ((P, { cls := .type "list", data := .seq (List.toArray [.ref Y, .int (i : Nat) ti]) kP }) :: led) [.ref P, .int below tb] (fun led' r => ∃ v t t' k', r = .int v t ∧ 0 ≤ v ∧ v < below ∧ led' = (P, { cls := .type "list", data := .seq (List.toArray [.ref Y, .int ((i + 1 : Nat) : Int) t']) k' }) :: led) := by
  intro dp un gd cn cs a₁ ccd cl outer A₀ base h₀ L m s Q E B F X N T hk hd hu hret
  refine wpAny_call ?_
  k_dflt (refine' code_def (binds := [(Str.ofString "bag", .ref P), (Str.ofString "below", .int below tb)]) ?k1 ?k2 ?k3 ?k4 ?k5 ?kA ?kF ?kK ?k6 ?k7 ?k8 ?k9 ?kB ?_ ?c2 ?c3 ?c4 ?c5; (case kA => exact rfl); (case kF => exact rfl); (case kK => first | exact rfl | assumption); (case k1 => k_asm); (case k2 => k_asm); (case k3 => k_asm); (case k4 => k_asm); (case k5 => k_asm); (case k6 => k_is); (case k7 => k_is); (case k8 => ktr_room); (case k9 => exact BindsTo.of_eq rfl); (case c5 => decide); (case kB => exact locs rfl); (case c2 => exact rfl); (case c3 => exact rfl); (case c4 => exact rfl); k_whole; intro g' L' h' FG' F' N' B' X' T'; (try dsimp only); (try k_fold))
  have hvl := hv.length
  have hm1 : ∀ z : Int, 0 ≤ z.fmod below ∧ z.fmod below < below := fun z => ⟨Int.fmod_nonneg_of_pos _ (by lia), Int.fmod_lt_of_pos _ (by lia)⟩
  repeat' ((fail_if_success (first | (with_reducible refine stop_ref ?_) | (with_reducible refine stop_lc ?_) | (with_reducible refine stop_alc ?_) | (with_reducible refine stop_zip ?_) | (with_reducible show IterE1 _ _ _ _ _ _ _ _ _ _ _ _ _ _ _) | (with_reducible show IterA1 _ _ _ _ _ _ _ _ _ _ _ _ _ _ _ _) | (with_reducible show CompOut _ _ _ _ _ _ _ _ _) | (with_reducible show IterF _ _ _ _ _ _ _ _ _ _ _) | (with_reducible show ForOut _ _ _ _ _ _ _ _ _))); first | (k_unfold; (try dsimp only)) | ((with_reducible refine item_shape ?_); k_dflt (refine item_at (hs := by with_unfolding_all rfl) (by k_asm) (by k_mem) (by assumption) (by first | (with_reducible exact Int.natCast_nonneg _) | (with_reducible assumption) | decide | lia) (by first | (with_reducible assumption) | decide | lia) ?_)) | ((with_reducible refine for_shape ?_); k_dflt (refine ForF (hs := by intro _; rfl) (by k_asm) (by rfl) (by rfl) (by with_unfolding_all passes_own) ?_)) | ((with_reducible show wpAny _ _ (call (Value.builtin "len") [Value.ref _]) _ _ _); k_dflt (refine kst_len (by k_asm) (by k_mem) (by first | assumption | rfl) (by lia) ?_)) | ((with_reducible refine floordiv_int ?kbe ?_ (Or.inl (PyProof.noPylong_of_log2 ?kbp))); (case kbe => first | assumption | lia); (case kbp => assumption)) | walk1 | (dsimp only; walk1) | (leave1; (try dsimp only)) | fail "no step")
  · rename_i hli
    have hli' : i < ns.length := by lia
    obtain ⟨tz, hz⟩ := hv.at (List.getElem?_eq_getElem hli')
    have hx : vs[((i : Nat) : Int).toNat]? = some (.int ns[i] tz) := by rw [Int.toNat_natCast]; exact hz
    refine item_at (hs := by with_unfolding_all rfl) (by k_asm) (List.mem_cons_of_mem _ mY) hx (by lia) (by lia) ?_
    repeat' ((fail_if_success (first | (with_reducible refine stop_ref ?_) | (with_reducible refine stop_lc ?_) | (with_reducible refine stop_alc ?_) | (with_reducible refine stop_zip ?_) | (with_reducible show IterE1 _ _ _ _ _ _ _ _ _ _ _ _ _ _ _) | (with_reducible show IterA1 _ _ _ _ _ _ _ _ _ _ _ _ _ _ _ _) | (with_reducible show CompOut _ _ _ _ _ _ _ _ _) | (with_reducible show IterF _ _ _ _ _ _ _ _ _ _ _) | (with_reducible show ForOut _ _ _ _ _ _ _ _ _))); first | (k_unfold; (try dsimp only)) | ((with_reducible refine item_shape ?_); k_dflt (refine item_at (hs := by with_unfolding_all rfl) (by k_asm) (by k_mem) (by assumption) (by first | (with_reducible exact Int.natCast_nonneg _) | (with_reducible assumption) | decide | lia) (by first | (with_reducible assumption) | decide | lia) ?_)) | ((with_reducible refine for_shape ?_); k_dflt (refine ForF (hs := by intro _; rfl) (by k_asm) (by rfl) (by rfl) (by with_unfolding_all passes_own) ?_)) | ((with_reducible show wpAny _ _ (call (Value.builtin "len") [Value.ref _]) _ _ _); k_dflt (refine kst_len (by k_asm) (by k_mem) (by first | assumption | rfl) (by lia) ?_)) | ((with_reducible refine floordiv_int ?kbe ?_ (Or.inl (PyProof.noPylong_of_log2 ?kbp))); (case kbe => first | assumption | lia); (case kbp => assumption)) | walk1 | (dsimp only; walk1) | (leave1; (try dsimp only)) | fail "no step")
    exact hret _ _ _ _ (by k_asm) (by k_asm) ⟨_, _, _, _, rfl, (hm1 _).1, (hm1 _).2, rfl⟩
  · exact hret _ _ _ _ (by k_asm) (by k_asm) ⟨_, _, _, _, rfl, (hm1 _).1, (hm1 _).2, rfl⟩
section
theorem t_number (w : World) (mean : ExcName → Option Value) (mg mb : Str → Option Value) (led : List (Addr × Obj)) (M : List (List Int)) (n k : Nat) (D : Int) (G : Addr) (kG : Nat) (gs : List Value) (mG : (G, ({ cls := .type "list", data := .seq (List.toArray gs) kG } : Obj)) ∈ led) (hM : IntRows led gs M) (hn : 1 ≤ n) (hl : M.length = n) (hw : ∀ zs ∈ M, zs.length = n) (hk1 : 1 ≤ k) (hz : ∀ zs ∈ M, ∀ z ∈ zs, z.natAbs < 2 ^ k) (hB : Bit k n ≤ 7000) (hn2 : n < 2 ^ 20) (hD : (solveM n n 0 (ratM M) 1).2 = (D : Rat)) (hlt : D.natAbs < 10 ^ 9) :
    Tell w mean mg mb 167 12 led [.ref G] (fun led' r => led' = led ∧ ∃ t, r = .int D t) := by
  intro dp un gd cn cs a₁ ccd cl outer A₀ base h₀ L m s Q E B F X N T hk hd hu hret
  refine wpAny_call ?_
  k_dflt (refine' code_def (binds := [(Str.ofString "grid", .ref G)]) ?k1 ?k2 ?k3 ?k4 ?k5 ?kA ?kF ?kK ?k6 ?k7 ?k8 ?k9 ?kB ?_ ?c2 ?c3 ?c4 ?c5; (case kA => exact rfl); (case kF => exact rfl); (case kK => first | exact rfl | assumption); (case k1 => k_asm); (case k2 => k_asm); (case k3 => k_asm); (case k4 => k_asm); (case k5 => k_asm); (case k6 => k_is); (case k7 => k_is); (case k8 => ktr_room); (case k9 => exact BindsTo.of_eq rfl); (case c5 => decide); (case kB => exact locs rfl); (case c2 => exact rfl); (case c3 => exact rfl); (case c4 => exact rfl); k_whole; intro g' L' h' FG' F' N' B' X' T'; (try dsimp only); (try k_fold))
  repeat' ((fail_if_success (first | (with_reducible refine stop_ref ?_) | (with_reducible refine stop_lc ?_) | (with_reducible refine stop_alc ?_) | (with_reducible refine stop_zip ?_) | (with_reducible show IterE1 _ _ _ _ _ _ _ _ _ _ _ _ _ _ _) | (with_reducible show IterA1 _ _ _ _ _ _ _ _ _ _ _ _ _ _ _ _) | (with_reducible show CompOut _ _ _ _ _ _ _ _ _) | (with_reducible show IterF _ _ _ _ _ _ _ _ _ _ _) | (with_reducible show ForOut _ _ _ _ _ _ _ _ _))); first | (k_unfold; (try dsimp only)) | ((with_reducible refine mul_int (hm := ?kbe) ?_); (case kbe => exact IntMulOk.of_left (dec_bits (by assumption) (by assumption)))) | ((with_reducible refine item_shape ?_); k_dflt (refine item_at (hs := by with_unfolding_all rfl) (by k_asm) (by k_mem) (by assumption) (by first | (with_reducible exact Int.natCast_nonneg _) | (with_reducible assumption) | decide | lia) (by first | (with_reducible assumption) | decide | lia) ?_)) | ((with_reducible refine for_shape ?_); k_dflt (refine ForF (hs := by intro _; rfl) (by k_asm) (by rfl) (by rfl) (by with_unfolding_all passes_own) ?_)) | ((with_reducible show wpAny _ _ (call (Value.builtin "len") [Value.ref _]) _ _ _); k_dflt (refine kst_len (by k_asm) (by k_mem) (by first | assumption | rfl) (by lia) ?_)) | ((with_reducible refine floordiv_int ?kbe ?_ (Or.inl (PyProof.noPylong_of_log2 ?kbp))); (case kbe => first | assumption | lia); (case kbp => assumption)) | walk1 | (dsimp only; walk1) | (leave1; (try dsimp only)) | fail "no step")
  refine Tell.goD (N := by k_asm) (B := by k_asm) (F := by k_asm) (X := by k_asm) (T := by k_asm) (hk := by first | exact rfl | assumption) (C := t_det w mean mg mb _ M n k D G kG gs _ mG hM hn hl hw hk1 hz hB hn2 hD hlt) (ret := ?_) (hd := by first | decide | exact room1 (by assumption) (by decide) | ktr_room) (hu := by first | decide | exact units1 (by assumption) (by decide) | ktr_units)
  intro y9 c i9 t9 u9 h9 tk9 l9 hc9 hi9 F9 N9
  dsimp only
  repeat' ((fail_if_success (first | (with_reducible refine stop_ref ?_) | (with_reducible refine stop_lc ?_) | (with_reducible refine stop_alc ?_) | (with_reducible refine stop_zip ?_) | (with_reducible show IterE1 _ _ _ _ _ _ _ _ _ _ _ _ _ _ _) | (with_reducible show IterA1 _ _ _ _ _ _ _ _ _ _ _ _ _ _ _ _) | (with_reducible show CompOut _ _ _ _ _ _ _ _ _) | (with_reducible show IterF _ _ _ _ _ _ _ _ _ _ _) | (with_reducible show ForOut _ _ _ _ _ _ _ _ _))); first | (k_unfold; (try dsimp only)) | ((with_reducible refine mul_int (hm := ?kbe) ?_); (case kbe => exact IntMulOk.of_left (dec_bits (by assumption) (by assumption)))) | ((with_reducible refine item_shape ?_); k_dflt (refine item_at (hs := by with_unfolding_all rfl) (by k_asm) (by k_mem) (by assumption) (by first | (with_reducible exact Int.natCast_nonneg _) | (with_reducible assumption) | decide | lia) (by first | (with_reducible assumption) | decide | lia) ?_)) | ((with_reducible refine for_shape ?_); k_dflt (refine ForF (hs := by intro _; rfl) (by k_asm) (by rfl) (by rfl) (by with_unfolding_all passes_own) ?_)) | ((with_reducible show wpAny _ _ (call (Value.builtin "len") [Value.ref _]) _ _ _); k_dflt (refine kst_len (by k_asm) (by k_mem) (by first | assumption | rfl) (by lia) ?_)) | ((with_reducible refine floordiv_int ?kbe ?_ (Or.inl (PyProof.noPylong_of_log2 ?kbp))); (case kbe => first | assumption | lia); (case kbp => assumption)) | walk1 | (dsimp only; walk1) | (leave1; (try dsimp only)) | fail "no step")
  have e9 : c * 10 ^ ((i9 : Nat) : Int).toNat = D := by rw [Int.toNat_natCast, hc9]
  rw [e9]
  exact hret _ _ _ _ (by k_asm) (News.drop (by k_asm) fun p hp => List.mem_cons_of_mem _ hp) ⟨rfl, _, rfl⟩
end
section
theorem t_cut (w : World) (mean : ExcName → Option Value) (mg mb : Str → Option Value) (led : List (Addr × Obj)) (M : List (List Int)) (G Z : Addr) (kG kZ : Nat) (gs ws : List Value) (zs : List Int) (mG : (G, ({ cls := .type "list", data := .seq (List.toArray gs) kG } : Obj)) ∈ led) (hM : IntRows led gs M) (hl : M.length = 4) (hw : ∀ zs ∈ M, zs.length = 4)
    (mZ : (Z, ({ cls := .type "list", data := .seq (List.toArray ws) kZ } : Obj)) ∈ led) (hz : Ints ws zs) (hzl : zs.length ≤ 4) :
    Tell w mean mg mb 160 3 led [.ref G, .ref Z] (fun led' v => ∃ tl R rs k, v = .ref R ∧ led' = tl ++ led ∧ (∀ p ∈ tl, ∀ q ∈ led, q.1 < p.1) ∧ (R, ({ cls := .type "list", data := .seq (List.toArray rs) k } : Obj)) ∈ tl ∧ IntRows tl rs (cutM M (keptTo (fun i => !(zs.any (· == ((i : Nat) : Int)))) 4))) := by
  intro dp un gd cn cs a₁ ccd cl outer A₀ base h₀ L m s Q E B F X N T hk hd hu hret
  refine wpAny_call ?_
  k_dflt (refine' code_defC (binds := [(Str.ofString "grid", .ref G), (Str.ofString "gone", .ref Z)]) ?k1 ?k2 ?k3 ?k4 ?k5 ?kA ?kF ?kK ?k6 ?k7 ?k8 ?k9 ?kB ?kD ?_ ?c2 ?c3 ?c4; (case kA => exact rfl); (case kF => exact rfl); (case kK => first | exact rfl | assumption); (case k1 => k_asm); (case k2 => k_asm); (case k3 => k_asm); (case k4 => k_asm); (case k5 => k_asm); (case k6 => k_is); (case k7 => k_is); (case k8 => ktr_room); (case k9 => exact BindsTo.of_eq rfl); (case kB => exact rfl); (case kD => decide +kernel); (case c2 => exact rfl); (case c3 => exact rfl); (case c4 => exact rfl); k_whole; intro g' L' h' tk' cells' FG' F' N' Y' B' X' T' l1; (try k_lt l1); k_cells Y'; (try simp only [List.cons_append, List.nil_append] at N'); (try dsimp only); (try k_fold))
  repeat' ((fail_if_success (first | (with_reducible show IterE1C _ _ _ _ _ _ _ _ _ _ _ _ _ _ _) | (with_reducible show LCt.CompSrcT _ _ _ _ _ _ _ _ _ _ _ _ _ _ _) | (with_reducible refine stop_ref ?_) | (with_reducible refine stop_lc ?_) | (with_reducible refine stop_alc ?_) | (with_reducible refine stop_zip ?_) | (with_reducible show IterE1 _ _ _ _ _ _ _ _ _ _ _ _ _ _ _) | (with_reducible show IterA1 _ _ _ _ _ _ _ _ _ _ _ _ _ _ _ _) | (with_reducible show CompOut _ _ _ _ _ _ _ _ _) | (with_reducible show IterF _ _ _ _ _ _ _ _ _ _ _) | (with_reducible show ForOut _ _ _ _ _ _ _ _ _))); first | (k_unfold; (try dsimp only)) | ((with_reducible refine item_shape ?_); k_dflt (refine item_at (hs := by with_unfolding_all rfl) (by k_asm) (by k_mem) (by assumption) (by first | (with_reducible exact Int.natCast_nonneg _) | (with_reducible assumption) | decide | lia) (by first | (with_reducible assumption) | decide | lia) ?_)) | ((with_reducible refine for_shape ?_); k_dflt (refine ForF (hs := by intro _; rfl) (by k_asm) (by rfl) (by rfl) (by with_unfolding_all passes_own) ?_)) | ((with_reducible show wpAny _ _ (call (Value.builtin "len") [Value.ref _]) _ _ _); k_dflt (refine kst_len (by k_asm) (by k_mem) (by first | assumption | rfl) (by lia) ?_)) | ((with_reducible refine floordiv_int ?kbe ?_ (Or.inl (PyProof.noPylong_of_log2 ?kbp))); (case kbe => first | assumption | lia); (case kbp => assumption)) | walk1 | (dsimp only; walk1) | (leave1; (try dsimp only)) | fail "no step")
  refine wpAny_Assign_Name ?_ (by with_unfolding_all rfl)
  rename_i oK oZ oG dK dZ dG
  have dZ' : oZ.data = .cell (some (.ref Z)) := dZ
  have dG' : oG.data = .cell (some (.ref G)) := dG
  have hoK : ∃ v, oK.data = .cell v := ⟨_, dK⟩
  clear dZ dG dK
  k_dflt (refine LCt.ListComp_T (by k_asm) (by with_unfolding_all rfl) (by decide) (by rfl) (by decide) (by rfl) ?_)
  repeat' ((fail_if_success (first | (with_reducible show IterE1C _ _ _ _ _ _ _ _ _ _ _ _ _ _ _) | (with_reducible show LCt.CompSrcT _ _ _ _ _ _ _ _ _ _ _ _ _ _ _) | (with_reducible refine stop_ref ?_) | (with_reducible refine stop_lc ?_) | (with_reducible refine stop_alc ?_) | (with_reducible refine stop_zip ?_) | (with_reducible show IterE1 _ _ _ _ _ _ _ _ _ _ _ _ _ _ _) | (with_reducible show IterA1 _ _ _ _ _ _ _ _ _ _ _ _ _ _ _ _) | (with_reducible show CompOut _ _ _ _ _ _ _ _ _) | (with_reducible show IterF _ _ _ _ _ _ _ _ _ _ _) | (with_reducible show ForOut _ _ _ _ _ _ _ _ _))); first | (k_unfold; (try dsimp only)) | ((with_reducible refine item_shape ?_); k_dflt (refine item_at (hs := by with_unfolding_all rfl) (by k_asm) (by k_mem) (by assumption) (by first | (with_reducible exact Int.natCast_nonneg _) | (with_reducible assumption) | decide | lia) (by first | (with_reducible assumption) | decide | lia) ?_)) | ((with_reducible refine for_shape ?_); k_dflt (refine ForF (hs := by intro _; rfl) (by k_asm) (by rfl) (by rfl) (by with_unfolding_all passes_own) ?_)) | ((with_reducible show wpAny _ _ (call (Value.builtin "len") [Value.ref _]) _ _ _); k_dflt (refine kst_len (by k_asm) (by k_mem) (by first | assumption | rfl) (by lia) ?_)) | ((with_reducible refine floordiv_int ?kbe ?_ (Or.inl (PyProof.noPylong_of_log2 ?kbp))); (case kbe => first | assumption | lia); (case kbp => assumption)) | walk1 | (dsimp only; walk1) | (leave1; (try dsimp only)) | fail "no step")
  rename_i h1 tk1 t1 u1 v1 hr F1 N1 k1
  refine LCt.CompSrcT.range rfl F1 N1 hr (by decide) (show _ = ((4 : Nat) : Int) by decide) (by rw [sizeLine_eq]; decide) fun gg => kept_rest (fun i => !(zs.any (· == ((i : Nat) : Int)))) 4 ?_ ?_ ?_ 4 0 [] rfl .nil
  · intro i t I oI C oC D ys m₂ h tk E' R hi hns hx F2 N2 hR
    (try clear F1); (try clear N1)
    repeat' ((fail_if_success (first | (with_reducible show IterE1C _ _ _ _ _ _ _ _ _ _ _ _ _ _ _) | (with_reducible show LCt.CompSrcT _ _ _ _ _ _ _ _ _ _ _ _ _ _ _) | (with_reducible refine stop_ref ?_) | (with_reducible refine stop_lc ?_) | (with_reducible refine stop_alc ?_) | (with_reducible refine stop_zip ?_) | (with_reducible show IterE1 _ _ _ _ _ _ _ _ _ _ _ _ _ _ _) | (with_reducible show IterA1 _ _ _ _ _ _ _ _ _ _ _ _ _ _ _ _) | (with_reducible show CompOut _ _ _ _ _ _ _ _ _) | (with_reducible show IterF _ _ _ _ _ _ _ _ _ _ _) | (with_reducible show ForOut _ _ _ _ _ _ _ _ _))); first | (k_unfold; (try dsimp only)) | ((with_reducible refine item_shape ?_); k_dflt (refine item_at (hs := by with_unfolding_all rfl) (by k_asm) (by k_mem) (by assumption) (by first | (with_reducible exact Int.natCast_nonneg _) | (with_reducible assumption) | decide | lia) (by first | (with_reducible assumption) | decide | lia) ?_)) | ((with_reducible refine for_shape ?_); k_dflt (refine ForF (hs := by intro _; rfl) (by k_asm) (by rfl) (by rfl) (by with_unfolding_all passes_own) ?_)) | ((with_reducible show wpAny _ _ (call (Value.builtin "len") [Value.ref _]) _ _ _); k_dflt (refine kst_len (by k_asm) (by k_mem) (by first | assumption | rfl) (by lia) ?_)) | ((with_reducible refine floordiv_int ?kbe ?_ (Or.inl (PyProof.noPylong_of_log2 ?kbp))); (case kbe => first | assumption | lia); (case kbp => assumption)) | walk1 | (dsimp only; walk1) | (leave1; (try dsimp only)) | fail "no step")
    refine notin_at (by k_asm) (by k_mem) hz ?_
    repeat' ((fail_if_success (first | (with_reducible show IterE1C _ _ _ _ _ _ _ _ _ _ _ _ _ _ _) | (with_reducible show LCt.CompSrcT _ _ _ _ _ _ _ _ _ _ _ _ _ _ _) | (with_reducible refine stop_ref ?_) | (with_reducible refine stop_lc ?_) | (with_reducible refine stop_alc ?_) | (with_reducible refine stop_zip ?_) | (with_reducible show IterE1 _ _ _ _ _ _ _ _ _ _ _ _ _ _ _) | (with_reducible show IterA1 _ _ _ _ _ _ _ _ _ _ _ _ _ _ _ _) | (with_reducible show CompOut _ _ _ _ _ _ _ _ _) | (with_reducible show IterF _ _ _ _ _ _ _ _ _ _ _) | (with_reducible show ForOut _ _ _ _ _ _ _ _ _))); first | (k_unfold; (try dsimp only)) | ((with_reducible refine item_shape ?_); k_dflt (refine item_at (hs := by with_unfolding_all rfl) (by k_asm) (by k_mem) (by assumption) (by first | (with_reducible exact Int.natCast_nonneg _) | (with_reducible assumption) | decide | lia) (by first | (with_reducible assumption) | decide | lia) ?_)) | ((with_reducible refine for_shape ?_); k_dflt (refine ForF (hs := by intro _; rfl) (by k_asm) (by rfl) (by rfl) (by with_unfolding_all passes_own) ?_)) | ((with_reducible show wpAny _ _ (call (Value.builtin "len") [Value.ref _]) _ _ _); k_dflt (refine kst_len (by k_asm) (by k_mem) (by first | assumption | rfl) (by lia) ?_)) | ((with_reducible refine floordiv_int ?kbe ?_ (Or.inl (PyProof.noPylong_of_log2 ?kbp))); (case kbe => first | assumption | lia); (case kbp => assumption)) | walk1 | (dsimp only; walk1) | (leave1; (try dsimp only)) | fail "no step")
    exact hR _ _ (by k_asm) (by k_asm)
  · intro i t I oI C oC D ys m₂ h tk E' R hi hns hx F2 N2 hR
    (try clear F1); (try clear N1)
    repeat' ((fail_if_success (first | (with_reducible show IterE1C _ _ _ _ _ _ _ _ _ _ _ _ _ _ _) | (with_reducible show LCt.CompSrcT _ _ _ _ _ _ _ _ _ _ _ _ _ _ _) | (with_reducible refine stop_ref ?_) | (with_reducible refine stop_lc ?_) | (with_reducible refine stop_alc ?_) | (with_reducible refine stop_zip ?_) | (with_reducible show IterE1 _ _ _ _ _ _ _ _ _ _ _ _ _ _ _) | (with_reducible show IterA1 _ _ _ _ _ _ _ _ _ _ _ _ _ _ _ _) | (with_reducible show CompOut _ _ _ _ _ _ _ _ _) | (with_reducible show IterF _ _ _ _ _ _ _ _ _ _ _) | (with_reducible show ForOut _ _ _ _ _ _ _ _ _))); first | (k_unfold; (try dsimp only)) | ((with_reducible refine item_shape ?_); k_dflt (refine item_at (hs := by with_unfolding_all rfl) (by k_asm) (by k_mem) (by assumption) (by first | (with_reducible exact Int.natCast_nonneg _) | (with_reducible assumption) | decide | lia) (by first | (with_reducible assumption) | decide | lia) ?_)) | ((with_reducible refine for_shape ?_); k_dflt (refine ForF (hs := by intro _; rfl) (by k_asm) (by rfl) (by rfl) (by with_unfolding_all passes_own) ?_)) | ((with_reducible show wpAny _ _ (call (Value.builtin "len") [Value.ref _]) _ _ _); k_dflt (refine kst_len (by k_asm) (by k_mem) (by first | assumption | rfl) (by lia) ?_)) | ((with_reducible refine floordiv_int ?kbe ?_ (Or.inl (PyProof.noPylong_of_log2 ?kbp))); (case kbe => first | assumption | lia); (case kbp => assumption)) | walk1 | (dsimp only; walk1) | (leave1; (try dsimp only)) | fail "no step")
    exact hR _ _ (by k_asm) (by k_asm)
  · intro ys hys D h2 tk2 F2 N2 off
    (try clear F1); (try clear N1)
    have o1 : @Ne Nat (L' + 1 + 1 + 1) D := off.1
    have o2 : @Ne Nat (L' + 1 + 1) D := off.2.1
    have o3 : @Ne Nat (L' + 1) D := off.2.2.1
    have hofK : OwnOff led [L' + 1 + 1 + 1] := own_just fun p hp => Nat.ne_of_lt (Nat.lt_trans (l1 p hp) (Nat.lt_succ_of_lt (Nat.lt_succ_of_lt (Nat.lt_succ_self _))))
    clear off
    obtain ⟨vK, hvK⟩ := hoK
    repeat' ((fail_if_success (first | (with_reducible show IterE1C _ _ _ _ _ _ _ _ _ _ _ _ _ _ _) | (with_reducible show LCt.CompSrcT _ _ _ _ _ _ _ _ _ _ _ _ _ _ _) | (with_reducible refine stop_ref ?_) | (with_reducible refine stop_lc ?_) | (with_reducible refine stop_alc ?_) | (with_reducible refine stop_zip ?_) | (with_reducible show IterE1 _ _ _ _ _ _ _ _ _ _ _ _ _ _ _) | (with_reducible show IterA1 _ _ _ _ _ _ _ _ _ _ _ _ _ _ _ _) | (with_reducible show CompOut _ _ _ _ _ _ _ _ _) | (with_reducible show IterF _ _ _ _ _ _ _ _ _ _ _) | (with_reducible show ForOut _ _ _ _ _ _ _ _ _))); first | (k_unfold; (try dsimp only)) | ((with_reducible refine item_shape ?_); k_dflt (refine item_at (hs := by with_unfolding_all rfl) (by k_asm) (by k_mem) (by assumption) (by first | (with_reducible exact Int.natCast_nonneg _) | (with_reducible assumption) | decide | lia) (by first | (with_reducible assumption) | decide | lia) ?_)) | ((with_reducible refine for_shape ?_); k_dflt (refine ForF (hs := by intro _; rfl) (by k_asm) (by rfl) (by rfl) (by with_unfolding_all passes_own) ?_)) | ((with_reducible show wpAny _ _ (call (Value.builtin "len") [Value.ref _]) _ _ _); k_dflt (refine kst_len (by k_asm) (by k_mem) (by first | assumption | rfl) (by lia) ?_)) | ((with_reducible refine floordiv_int ?kbe ?_ (Or.inl (PyProof.noPylong_of_log2 ?kbp))); (case kbe => first | assumption | lia); (case kbp => assumption)) | walk1 | (dsimp only; walk1) | (leave1; (try dsimp only)) | fail "no step")
    rename_i h3 oK2 F3 N3 dK2
    (try clear F2); (try clear N2)
    have hkl : (keptTo (fun i => !(zs.any (· == ((i : Nat) : Int)))) 4).length ≤ 4 := keptTo_length
    have hkm : ∀ z ∈ keptTo (fun i => !(zs.any (· == ((i : Nat) : Int)))) 4, 0 ≤ z ∧ z < 4 := fun z hz => keptTo_lt hz
    generalize keptTo (fun i => !(zs.any (· == ((i : Nat) : Int)))) 4 = ks at *
    have hyl := hys.length
    k_dflt (refine ListComp1CE (hs := by intro _; rfl) (by k_asm) (by with_unfolding_all rfl) (by intro k; rfl) (by intro h; rfl) (by rfl) (by decide) (by intro B cl'; rfl) ?_)
    repeat' ((fail_if_success (first | (with_reducible show IterE1C _ _ _ _ _ _ _ _ _ _ _ _ _ _ _) | (with_reducible show LCt.CompSrcT _ _ _ _ _ _ _ _ _ _ _ _ _ _ _) | (with_reducible refine stop_ref ?_) | (with_reducible refine stop_lc ?_) | (with_reducible refine stop_alc ?_) | (with_reducible refine stop_zip ?_) | (with_reducible show IterE1 _ _ _ _ _ _ _ _ _ _ _ _ _ _ _) | (with_reducible show IterA1 _ _ _ _ _ _ _ _ _ _ _ _ _ _ _ _) | (with_reducible show CompOut _ _ _ _ _ _ _ _ _) | (with_reducible show IterF _ _ _ _ _ _ _ _ _ _ _) | (with_reducible show ForOut _ _ _ _ _ _ _ _ _))); first | (k_unfold; (try dsimp only)) | ((with_reducible refine item_shape ?_); k_dflt (refine item_at (hs := by with_unfolding_all rfl) (by k_asm) (by k_mem) (by assumption) (by first | (with_reducible exact Int.natCast_nonneg _) | (with_reducible assumption) | decide | lia) (by first | (with_reducible assumption) | decide | lia) ?_)) | ((with_reducible refine for_shape ?_); k_dflt (refine ForF (hs := by intro _; rfl) (by k_asm) (by rfl) (by rfl) (by with_unfolding_all passes_own) ?_)) | ((with_reducible show wpAny _ _ (call (Value.builtin "len") [Value.ref _]) _ _ _); k_dflt (refine kst_len (by k_asm) (by k_mem) (by first | assumption | rfl) (by lia) ?_)) | ((with_reducible refine floordiv_int ?kbe ?_ (Or.inl (PyProof.noPylong_of_log2 ?kbp))); (case kbe => first | assumption | lia); (case kbp => assumption)) | walk1 | (dsimp only; walk1) | (leave1; (try dsimp only)) | fail "no step")
    refine IterE1C.list rfl F3 N3 List.mem_cons_self (by rw [List.size_toArray, sizeLine_eq]; lia) (fun i ys2 led₁ => ∃ tl, led₁ = tl ++ ((D, LCg.lst ys) :: (L' + 1 + 1 + 1, oK2) :: (L' + 1 + 1, oZ) :: (L' + 1, oG) :: led) ∧ (∀ p ∈ tl, ∀ q ∈ led, q.1 < p.1) ∧ IntRows tl ys2 ((ks.take i).map fun z => ks.map fun u => cellI M z u)) ⟨[], rfl, (fun _ h => nomatch h), .nil⟩ ?_ ?_
    · rintro i v ys2 led₁ own B K oK3 h4 tk4 E' hi hv ⟨tl, rfl, ht, hJ⟩ hK dK3 F4 N4
      obtain ⟨z, tz, rfl, hzi⟩ := hys.get (by simpa using hv)
      have hzb := hkm z (List.mem_of_getElem? hzi)
      have N5 : News g' L' h4 ((K, oK3) :: (own ++ (tl ++ ((D, LCg.lst ys) :: (L' + 1 + 1 + 1, oK2) :: (L' + 1 + 1, oZ) :: (L' + 1, oG) :: led)))) := News.drop N4 fun p hp => by
        rcases List.mem_cons.mp hp with rfl | hp
        · exact List.mem_append_left _ hK
        · exact hp
      clear N4 N3
      (try clear F3)
      k_dflt (refine ListComp1E (hs := by intro _; rfl) (by k_asm) (by with_unfolding_all rfl) (by decide) (by rfl) (by decide) (by rfl) ?_)
      repeat' ((fail_if_success (first | (with_reducible show IterE1C _ _ _ _ _ _ _ _ _ _ _ _ _ _ _) | (with_reducible show LCt.CompSrcT _ _ _ _ _ _ _ _ _ _ _ _ _ _ _) | (with_reducible refine stop_ref ?_) | (with_reducible refine stop_lc ?_) | (with_reducible refine stop_alc ?_) | (with_reducible refine stop_zip ?_) | (with_reducible show IterE1 _ _ _ _ _ _ _ _ _ _ _ _ _ _ _) | (with_reducible show IterA1 _ _ _ _ _ _ _ _ _ _ _ _ _ _ _ _) | (with_reducible show CompOut _ _ _ _ _ _ _ _ _) | (with_reducible show IterF _ _ _ _ _ _ _ _ _ _ _) | (with_reducible show ForOut _ _ _ _ _ _ _ _ _))); first | (k_unfold; (try dsimp only)) | ((with_reducible refine item_shape ?_); k_dflt (refine item_at (hs := by with_unfolding_all rfl) (by k_asm) (by k_mem) (by assumption) (by first | (with_reducible exact Int.natCast_nonneg _) | (with_reducible assumption) | decide | lia) (by first | (with_reducible assumption) | decide | lia) ?_)) | ((with_reducible refine for_shape ?_); k_dflt (refine ForF (hs := by intro _; rfl) (by k_asm) (by rfl) (by rfl) (by with_unfolding_all passes_own) ?_)) | ((with_reducible show wpAny _ _ (call (Value.builtin "len") [Value.ref _]) _ _ _); k_dflt (refine kst_len (by k_asm) (by k_mem) (by first | assumption | rfl) (by lia) ?_)) | ((with_reducible refine floordiv_int ?kbe ?_ (Or.inl (PyProof.noPylong_of_log2 ?kbp))); (case kbe => first | assumption | lia); (case kbp => assumption)) | walk1 | (dsimp only; walk1) | (leave1; (try dsimp only)) | fail "no step")
      refine IterE1.listInts rfl F4 N5 (ax := D) (List.mem_cons_of_mem _ (List.mem_append_right _ (List.mem_append_right _ List.mem_cons_self))) (by rw [List.size_toArray, sizeLine_eq]; lia) (ks.map fun u => cellI M z u) (by rw [List.length_map, List.size_toArray]; exact hyl.symm) ?_ ?_
      · intro j v2 c own2 C2 oC2 m₂ h5 tk5 E2 hj hv2 hc hC2 hns2 hx2 F5 N6
        obtain ⟨u, tu, rfl, hu⟩ := hys.get (by simpa using hv2)
        have hub := hkm u (List.mem_of_getElem? hu)
        have hcc : c = cellI M z u := by rw [List.getElem?_map, hu] at hc; exact (Option.some.inj hc).symm
        obtain ⟨r, kr, cs, tc, hg1, hg2, hg3⟩ := cell_at hM hl hw hzb hub
        subst hcc
        (try clear F4); (try clear N5)
        repeat' ((fail_if_success (first | (with_reducible show IterE1C _ _ _ _ _ _ _ _ _ _ _ _ _ _ _) | (with_reducible show LCt.CompSrcT _ _ _ _ _ _ _ _ _ _ _ _ _ _ _) | (with_reducible refine stop_ref ?_) | (with_reducible refine stop_lc ?_) | (with_reducible refine stop_alc ?_) | (with_reducible refine stop_zip ?_) | (with_reducible show IterE1 _ _ _ _ _ _ _ _ _ _ _ _ _ _ _) | (with_reducible show IterA1 _ _ _ _ _ _ _ _ _ _ _ _ _ _ _ _) | (with_reducible show CompOut _ _ _ _ _ _ _ _ _) | (with_reducible show IterF _ _ _ _ _ _ _ _ _ _ _) | (with_reducible show ForOut _ _ _ _ _ _ _ _ _))); first | (k_unfold; (try dsimp only)) | ((with_reducible refine item_shape ?_); k_dflt (refine item_at (hs := by with_unfolding_all rfl) (by k_asm) (by k_mem) (by assumption) (by first | (with_reducible exact Int.natCast_nonneg _) | (with_reducible assumption) | decide | lia) (by first | (with_reducible assumption) | decide | lia) ?_)) | ((with_reducible refine for_shape ?_); k_dflt (refine ForF (hs := by intro _; rfl) (by k_asm) (by rfl) (by rfl) (by with_unfolding_all passes_own) ?_)) | ((with_reducible show wpAny _ _ (call (Value.builtin "len") [Value.ref _]) _ _ _); k_dflt (refine kst_len (by k_asm) (by k_mem) (by first | assumption | rfl) (by lia) ?_)) | ((with_reducible refine floordiv_int ?kbe ?_ (Or.inl (PyProof.noPylong_of_log2 ?kbp))); (case kbe => first | assumption | lia); (case kbp => assumption)) | walk1 | (dsimp only; walk1) | (leave1; (try dsimp only)) | fail "no step")
        exact compOut_same (by k_asm) (by k_asm) (fun _ h => h) ⟨rfl, _, rfl⟩
      · intro D2 h5 tk5 ys3 F5 N6 hlt2 hys3
        have hlo : ∀ q ∈ own, q.1 < D2 := fun q hq => hlt2 q (List.mem_cons_of_mem _ (List.mem_append_left _ hq))
        have hll : ∀ q ∈ led, q.1 < D2 := fun q hq => hlt2 q (List.mem_cons_of_mem _ (List.mem_append_right _ (List.mem_append_right _ (List.mem_cons_of_mem _ (List.mem_cons_of_mem _ (List.mem_cons_of_mem _ (List.mem_cons_of_mem _ hq)))))))
        refine compOut_many (tl := [(D2, LCg.lst ys3)]) F5 (News.drop N6 fun p hp => ?_) (fun p hp q hq => ?_) ⟨(D2, LCg.lst ys3) :: tl, rfl, fun p hp q hq => ?_, ?_⟩
        · rcases List.mem_cons.mp hp with rfl | hp
          · exact List.mem_cons_self
          · exact List.mem_cons_of_mem _ (List.mem_cons_of_mem _ hp)
        · rw [List.mem_singleton.mp hp]; exact hlo q hq
        · rcases List.mem_cons.mp hp with rfl | hp
          · exact hll q hq
          · exact ht p hp q hq
        · rw [take_map_succ' hzi]
          exact (hJ.mono fun p hp => List.mem_cons_of_mem _ hp).snoc ⟨D2, _, ys3, rfl, List.mem_cons_self, hys3⟩
    · rintro D2 h4 tk4 ys2 led₁ F4 N4 hD2 hlt2 hlen2 ⟨tl, rfl, ht, hJ⟩
      rw [List.take_of_length_le (by rw [List.size_toArray]; lia)] at hJ
      have hll : ∀ q ∈ led, q.1 < D2 := fun q hq => hlt2 q (List.mem_cons_of_mem _ (List.mem_cons_of_mem _ (List.mem_cons_of_mem _ (List.mem_cons_of_mem _ hq))))
      repeat' ((fail_if_success (first | (with_reducible show IterE1C _ _ _ _ _ _ _ _ _ _ _ _ _ _ _) | (with_reducible show LCt.CompSrcT _ _ _ _ _ _ _ _ _ _ _ _ _ _ _) | (with_reducible refine stop_ref ?_) | (with_reducible refine stop_lc ?_) | (with_reducible refine stop_alc ?_) | (with_reducible refine stop_zip ?_) | (with_reducible show IterE1 _ _ _ _ _ _ _ _ _ _ _ _ _ _ _) | (with_reducible show IterA1 _ _ _ _ _ _ _ _ _ _ _ _ _ _ _ _) | (with_reducible show CompOut _ _ _ _ _ _ _ _ _) | (with_reducible show IterF _ _ _ _ _ _ _ _ _ _ _) | (with_reducible show ForOut _ _ _ _ _ _ _ _ _))); first | (k_unfold; (try dsimp only)) | ((with_reducible refine item_shape ?_); k_dflt (refine item_at (hs := by with_unfolding_all rfl) (by k_asm) (by k_mem) (by assumption) (by first | (with_reducible exact Int.natCast_nonneg _) | (with_reducible assumption) | decide | lia) (by first | (with_reducible assumption) | decide | lia) ?_)) | ((with_reducible refine for_shape ?_); k_dflt (refine ForF (hs := by intro _; rfl) (by k_asm) (by rfl) (by rfl) (by with_unfolding_all passes_own) ?_)) | ((with_reducible show wpAny _ _ (call (Value.builtin "len") [Value.ref _]) _ _ _); k_dflt (refine kst_len (by k_asm) (by k_mem) (by first | assumption | rfl) (by lia) ?_)) | ((with_reducible refine floordiv_int ?kbe ?_ (Or.inl (PyProof.noPylong_of_log2 ?kbp))); (case kbe => first | assumption | lia); (case kbp => assumption)) | walk1 | (dsimp only; walk1) | (leave1; (try dsimp only)) | fail "no step")
      refine hret _ (((D2, LCg.lst ys2) :: tl) ++ led) _ _ (by k_asm) (News.drop (news' := (D2, LCg.lst ys2) :: (tl ++ ((D, LCg.lst ys) :: (L' + 1 + 1 + 1, oK2) :: (L' + 1 + 1, oZ) :: (L' + 1, oG) :: led))) (by k_asm) fun p hp => ?_) ⟨(D2, LCg.lst ys2) :: tl, D2, ys2, _, rfl, rfl, fun p hp q hq => ?_, List.mem_cons_self, hJ.mono fun p hp => List.mem_cons_of_mem _ hp⟩
      · rcases List.mem_append.mp hp with hp | hp
        · rcases List.mem_cons.mp hp with rfl | hp
          · exact List.mem_cons_self
          · exact List.mem_cons_of_mem _ (List.mem_append_left _ hp)
        · exact List.mem_cons_of_mem _ (List.mem_append_right _ (List.mem_cons_of_mem _ (List.mem_cons_of_mem _ (List.mem_cons_of_mem _ (List.mem_cons_of_mem _ hp)))))
      · rcases List.mem_cons.mp hp with rfl | hp
        · exact hll q hq
        · exact ht p hp q hq
end
section
theorem t_resist (w : World) (mean : ExcName → Option Value) (mg mb : Str → Option Value) (led : List (Addr × Obj)) (M : List (List Int)) (G : Addr) (kG : Nat) (gs : List Value) (mG : (G, ({ cls := .type "list", data := .seq (List.toArray gs) kG } : Obj)) ∈ led) (hM : IntRows led gs M) (hl : M.length = 4) (hw : ∀ zs ∈ M, zs.length = 4) (hz : ∀ zs ∈ M, ∀ z ∈ zs, z.natAbs < 2 ^ 10) (a b : Int) (ta tb : Tok) (D Tn : Int) (h1 : (but1 b).length = 3) (h2 : (but2 a b).length = 2)
    (hD : (solveM 2 2 0 (ratM (cutM M (but2 a b))) 1).2 = (D : Rat)) (hDl : D.natAbs < 10 ^ 9) (hT : (solveM 3 3 0 (ratM (cutM M (but1 b))) 1).2 = (Tn : Rat)) (hTl : Tn.natAbs < 10 ^ 9) (hT0 : Tn ≠ 0) :
    Tell w mean mg mb 179 14 led [.ref G, .int a ta, .int b tb] (PostQ led (Rat.divInt D Tn)) := by
  intro dp un gd cn cs a₁ ccd cl outer A₀ base h₀ L m s Q E B F X N T hk hd hu hret
  have hTb : Builtin.Int.intBits Tn ≤ 8000 := Nat.le_trans (bits9 hTl) (by decide)
  refine wpAny_call ?_
  k_dflt (refine' code_def (binds := [(Str.ofString "grid", .ref G), (Str.ofString "one", .int a ta), (Str.ofString "other", .int b tb)]) ?k1 ?k2 ?k3 ?k4 ?k5 ?kA ?kF ?kK ?k6 ?k7 ?k8 ?k9 ?kB ?_ ?c2 ?c3 ?c4 ?c5; (case kA => exact rfl); (case kF => exact rfl); (case kK => first | exact rfl | assumption); (case k1 => k_asm); (case k2 => k_asm); (case k3 => k_asm); (case k4 => k_asm); (case k5 => k_asm); (case k6 => k_is); (case k7 => k_is); (case k8 => ktr_room); (case k9 => exact BindsTo.of_eq rfl); (case c5 => decide); (case kB => exact locs rfl); (case c2 => exact rfl); (case c3 => exact rfl); (case c4 => exact rfl); k_whole; intro g' L' h' FG' F' N' B' X' T'; (try dsimp only); (try k_fold))
  repeat' ((fail_if_success (first | (with_reducible refine stop_ref ?_) | (with_reducible refine stop_lc ?_) | (with_reducible refine stop_alc ?_) | (with_reducible refine stop_zip ?_) | (with_reducible show IterE1 _ _ _ _ _ _ _ _ _ _ _ _ _ _ _) | (with_reducible show IterA1 _ _ _ _ _ _ _ _ _ _ _ _ _ _ _ _) | (with_reducible show CompOut _ _ _ _ _ _ _ _ _) | (with_reducible show IterF _ _ _ _ _ _ _ _ _ _ _) | (with_reducible show ForOut _ _ _ _ _ _ _ _ _))); first | (k_unfold; (try dsimp only)) | ((with_reducible refine item_shape ?_); k_dflt (refine item_at (hs := by with_unfolding_all rfl) (by k_asm) (by k_mem) (by assumption) (by first | (with_reducible exact Int.natCast_nonneg _) | (with_reducible assumption) | decide | lia) (by first | (with_reducible assumption) | decide | lia) ?_)) | ((with_reducible refine for_shape ?_); k_dflt (refine ForF (hs := by intro _; rfl) (by k_asm) (by rfl) (by rfl) (by with_unfolding_all passes_own) ?_)) | ((with_reducible show wpAny _ _ (call (Value.builtin "len") [Value.ref _]) _ _ _); k_dflt (refine kst_len (by k_asm) (by k_mem) (by first | assumption | rfl) (by lia) ?_)) | ((with_reducible refine floordiv_int ?kbe ?_ (Or.inl (PyProof.noPylong_of_log2 ?kbp))); (case kbe => first | assumption | lia); (case kbp => assumption)) | walk1 | (dsimp only; walk1) | (leave1; (try dsimp only)) | fail "no step")
  rename_i Z1 hZ1 FZ1 NZ1 lZ1
  refine Tell.goM (N := by k_asm) (B := by k_asm) (F := by k_asm) (X := by k_asm) (T := by k_asm) (hk := by first | exact rfl | assumption) (C := t_cut w mean mg mb _ M G Z1 kG _ gs _ [a, b] (by k_mem) (hM.mono fun p hp => List.mem_cons_of_mem _ hp) hl hw (by k_mem) (.cons (.cons .nil)) (show 2 ≤ 4 by decide)) (ret := ?_) (hd := by first | decide | exact room1 (by assumption) (by decide) | ktr_room) (hu := by first | decide | exact units1 (by assumption) (by decide) | ktr_units)
  intro tl1 R1 rs1 k1 h1' tk1 ht1 mR1 hR1 F1 N1
  dsimp only
  repeat' ((fail_if_success (first | (with_reducible refine stop_ref ?_) | (with_reducible refine stop_lc ?_) | (with_reducible refine stop_alc ?_) | (with_reducible refine stop_zip ?_) | (with_reducible show IterE1 _ _ _ _ _ _ _ _ _ _ _ _ _ _ _) | (with_reducible show IterA1 _ _ _ _ _ _ _ _ _ _ _ _ _ _ _ _) | (with_reducible show CompOut _ _ _ _ _ _ _ _ _) | (with_reducible show IterF _ _ _ _ _ _ _ _ _ _ _) | (with_reducible show ForOut _ _ _ _ _ _ _ _ _))); first | (k_unfold; (try dsimp only)) | ((with_reducible refine item_shape ?_); k_dflt (refine item_at (hs := by with_unfolding_all rfl) (by k_asm) (by k_mem) (by assumption) (by first | (with_reducible exact Int.natCast_nonneg _) | (with_reducible assumption) | decide | lia) (by first | (with_reducible assumption) | decide | lia) ?_)) | ((with_reducible refine for_shape ?_); k_dflt (refine ForF (hs := by intro _; rfl) (by k_asm) (by rfl) (by rfl) (by with_unfolding_all passes_own) ?_)) | ((with_reducible show wpAny _ _ (call (Value.builtin "len") [Value.ref _]) _ _ _); k_dflt (refine kst_len (by k_asm) (by k_mem) (by first | assumption | rfl) (by lia) ?_)) | ((with_reducible refine floordiv_int ?kbe ?_ (Or.inl (PyProof.noPylong_of_log2 ?kbp))); (case kbe => first | assumption | lia); (case kbp => assumption)) | walk1 | (dsimp only; walk1) | (leave1; (try dsimp only)) | fail "no step")
  refine Tell.goI (N := by k_asm) (B := by k_asm) (F := by k_asm) (X := by k_asm) (T := by k_asm) (hk := by first | exact rfl | assumption) (C := t_number w mean mg mb _ (cutM M (but2 a b)) 2 10 D R1 k1 rs1 (List.mem_append_left _ mR1) (hR1.mono fun p hp => List.mem_append_left _ hp) (by decide) ((cutM_len ..).trans h2) (fun zs hzs => (cutM_wide zs hzs).trans h2) (by decide) (cutM_bits hz) (by decide) (by decide) hD hDl) (ret := ?_) (hd := by first | decide | exact room1 (by assumption) (by decide) | ktr_room) (hu := by first | decide | exact units1 (by assumption) (by decide) | ktr_units)
  intro t2 h2' tk2 F2 N2
  dsimp only
  repeat' ((fail_if_success (first | (with_reducible refine stop_ref ?_) | (with_reducible refine stop_lc ?_) | (with_reducible refine stop_alc ?_) | (with_reducible refine stop_zip ?_) | (with_reducible show IterE1 _ _ _ _ _ _ _ _ _ _ _ _ _ _ _) | (with_reducible show IterA1 _ _ _ _ _ _ _ _ _ _ _ _ _ _ _ _) | (with_reducible show CompOut _ _ _ _ _ _ _ _ _) | (with_reducible show IterF _ _ _ _ _ _ _ _ _ _ _) | (with_reducible show ForOut _ _ _ _ _ _ _ _ _))); first | (k_unfold; (try dsimp only)) | ((with_reducible refine item_shape ?_); k_dflt (refine item_at (hs := by with_unfolding_all rfl) (by k_asm) (by k_mem) (by assumption) (by first | (with_reducible exact Int.natCast_nonneg _) | (with_reducible assumption) | decide | lia) (by first | (with_reducible assumption) | decide | lia) ?_)) | ((with_reducible refine for_shape ?_); k_dflt (refine ForF (hs := by intro _; rfl) (by k_asm) (by rfl) (by rfl) (by with_unfolding_all passes_own) ?_)) | ((with_reducible show wpAny _ _ (call (Value.builtin "len") [Value.ref _]) _ _ _); k_dflt (refine kst_len (by k_asm) (by k_mem) (by first | assumption | rfl) (by lia) ?_)) | ((with_reducible refine floordiv_int ?kbe ?_ (Or.inl (PyProof.noPylong_of_log2 ?kbp))); (case kbe => first | assumption | lia); (case kbp => assumption)) | walk1 | (dsimp only; walk1) | (leave1; (try dsimp only)) | fail "no step")
  rename_i Z2 hZ2 FZ2 NZ2 lZ2
  refine Tell.goM (N := by k_asm) (B := by k_asm) (F := by k_asm) (X := by k_asm) (T := by k_asm) (hk := by first | exact rfl | assumption) (C := t_cut w mean mg mb _ M G Z2 kG _ gs _ [b] (List.mem_cons_of_mem _ (List.mem_append_right _ (List.mem_cons_of_mem _ mG))) (hM.mono fun p hp => List.mem_cons_of_mem _ (List.mem_append_right _ (List.mem_cons_of_mem _ hp))) hl hw (by k_mem) (.cons .nil) (show 1 ≤ 4 by decide)) (ret := ?_) (hd := by first | decide | exact room1 (by assumption) (by decide) | ktr_room) (hu := by first | decide | exact units1 (by assumption) (by decide) | ktr_units)
  intro tl2 R2 rs2 k2 h3' tk3 ht2 mR2 hR2 F3 N3
  dsimp only
  repeat' ((fail_if_success (first | (with_reducible refine stop_ref ?_) | (with_reducible refine stop_lc ?_) | (with_reducible refine stop_alc ?_) | (with_reducible refine stop_zip ?_) | (with_reducible show IterE1 _ _ _ _ _ _ _ _ _ _ _ _ _ _ _) | (with_reducible show IterA1 _ _ _ _ _ _ _ _ _ _ _ _ _ _ _ _) | (with_reducible show CompOut _ _ _ _ _ _ _ _ _) | (with_reducible show IterF _ _ _ _ _ _ _ _ _ _ _) | (with_reducible show ForOut _ _ _ _ _ _ _ _ _))); first | (k_unfold; (try dsimp only)) | ((with_reducible refine item_shape ?_); k_dflt (refine item_at (hs := by with_unfolding_all rfl) (by k_asm) (by k_mem) (by assumption) (by first | (with_reducible exact Int.natCast_nonneg _) | (with_reducible assumption) | decide | lia) (by first | (with_reducible assumption) | decide | lia) ?_)) | ((with_reducible refine for_shape ?_); k_dflt (refine ForF (hs := by intro _; rfl) (by k_asm) (by rfl) (by rfl) (by with_unfolding_all passes_own) ?_)) | ((with_reducible show wpAny _ _ (call (Value.builtin "len") [Value.ref _]) _ _ _); k_dflt (refine kst_len (by k_asm) (by k_mem) (by first | assumption | rfl) (by lia) ?_)) | ((with_reducible refine floordiv_int ?kbe ?_ (Or.inl (PyProof.noPylong_of_log2 ?kbp))); (case kbe => first | assumption | lia); (case kbp => assumption)) | walk1 | (dsimp only; walk1) | (leave1; (try dsimp only)) | fail "no step")
  refine Tell.goI (N := by k_asm) (B := by k_asm) (F := by k_asm) (X := by k_asm) (T := by k_asm) (hk := by first | exact rfl | assumption) (C := t_number w mean mg mb _ (cutM M (but1 b)) 3 10 Tn R2 k2 rs2 (List.mem_append_left _ mR2) (hR2.mono fun p hp => List.mem_append_left _ hp) (by decide) ((cutM_len ..).trans h1) (fun zs hzs => (cutM_wide zs hzs).trans h1) (by decide) (cutM_bits hz) (by decide) (by decide) hT hTl) (ret := ?_) (hd := by first | decide | exact room1 (by assumption) (by decide) | ktr_room) (hu := by first | decide | exact units1 (by assumption) (by decide) | ktr_units)
  intro t4 h4' tk4 F4 N4
  dsimp only
  repeat' ((fail_if_success (first | (with_reducible refine stop_ref ?_) | (with_reducible refine stop_lc ?_) | (with_reducible refine stop_alc ?_) | (with_reducible refine stop_zip ?_) | (with_reducible show IterE1 _ _ _ _ _ _ _ _ _ _ _ _ _ _ _) | (with_reducible show IterA1 _ _ _ _ _ _ _ _ _ _ _ _ _ _ _ _) | (with_reducible show CompOut _ _ _ _ _ _ _ _ _) | (with_reducible show IterF _ _ _ _ _ _ _ _ _ _ _) | (with_reducible show ForOut _ _ _ _ _ _ _ _ _))); first | (k_unfold; (try dsimp only)) | ((with_reducible refine item_shape ?_); k_dflt (refine item_at (hs := by with_unfolding_all rfl) (by k_asm) (by k_mem) (by assumption) (by first | (with_reducible exact Int.natCast_nonneg _) | (with_reducible assumption) | decide | lia) (by first | (with_reducible assumption) | decide | lia) ?_)) | ((with_reducible refine for_shape ?_); k_dflt (refine ForF (hs := by intro _; rfl) (by k_asm) (by rfl) (by rfl) (by with_unfolding_all passes_own) ?_)) | ((with_reducible show wpAny _ _ (call (Value.builtin "len") [Value.ref _]) _ _ _); k_dflt (refine kst_len (by k_asm) (by k_mem) (by first | assumption | rfl) (by lia) ?_)) | ((with_reducible refine floordiv_int ?kbe ?_ (Or.inl (PyProof.noPylong_of_log2 ?kbp))); (case kbe => first | assumption | lia); (case kbp => assumption)) | walk1 | (dsimp only; walk1) | (leave1; (try dsimp only)) | fail "no step")
  refine Tell.goQ (N := by k_asm) (B := by k_asm) (F := by k_asm) (X := by k_asm) (T := by k_asm) (hk := by first | exact rfl | assumption) (C := t_fraction _ _ _ _ _ _ _ _ _ (by assumption) (by assumption)) (ret := ?_) (hd := by first | decide | exact room1 (by assumption) (by decide) | ktr_room) (hu := by first | decide | exact units1 (by assumption) (by decide) | ktr_units)
  intro x9 t9 u9 h9 tk9 l9 F9 N9
  (try dsimp only)
  (try k_fold)
  repeat' ((fail_if_success (first | (with_reducible refine stop_ref ?_) | (with_reducible refine stop_lc ?_) | (with_reducible refine stop_alc ?_) | (with_reducible refine stop_zip ?_) | (with_reducible show IterE1 _ _ _ _ _ _ _ _ _ _ _ _ _ _ _) | (with_reducible show IterA1 _ _ _ _ _ _ _ _ _ _ _ _ _ _ _ _) | (with_reducible show CompOut _ _ _ _ _ _ _ _ _) | (with_reducible show IterF _ _ _ _ _ _ _ _ _ _ _) | (with_reducible show ForOut _ _ _ _ _ _ _ _ _))); first | (k_unfold; (try dsimp only)) | ((with_reducible refine item_shape ?_); k_dflt (refine item_at (hs := by with_unfolding_all rfl) (by k_asm) (by k_mem) (by assumption) (by first | (with_reducible exact Int.natCast_nonneg _) | (with_reducible assumption) | decide | lia) (by first | (with_reducible assumption) | decide | lia) ?_)) | ((with_reducible refine for_shape ?_); k_dflt (refine ForF (hs := by intro _; rfl) (by k_asm) (by rfl) (by rfl) (by with_unfolding_all passes_own) ?_)) | ((with_reducible show wpAny _ _ (call (Value.builtin "len") [Value.ref _]) _ _ _); k_dflt (refine kst_len (by k_asm) (by k_mem) (by first | assumption | rfl) (by lia) ?_)) | ((with_reducible refine floordiv_int ?kbe ?_ (Or.inl (PyProof.noPylong_of_log2 ?kbp))); (case kbe => first | assumption | lia); (case kbp => assumption)) | walk1 | (dsimp only; walk1) | (leave1; (try dsimp only)) | fail "no step")
  rename News _ _ _ _ => Nz
  exact hret _ _ _ _ (by k_asm) (keep_two Nz) ⟨_, _, _, rfl, allLt_two (by assumption), rfl⟩
end
theorem stop_li {M : Model} {A : Around} {E : Value → Shared → Prop} {s : Shared} {Q : Value → Shared → Prop} {vs} (h : False) : wpAny M A (call (Value.builtin "list.index") vs) Q E s := h.elim
theorem stop_di {M : Model} {A : Around} {E : Value → Shared → Prop} {s : Shared} {Q : Value → Shared → Prop} {vs} (h : False) : wpAny M A (call (Value.builtin "dict.items") vs) Q E s := h.elim
theorem stop_gm {M : Model} {A : Around} {E : Value → Shared → Prop} {s : Shared} {Q : Value × List Value → Shared → Prop} {a n p} (h : False) : wpAny M A (getMethod (Value.ref a) n p) Q E s := h.elim
section
def ZeroJ (led : List (Addr × Obj)) (i : Nat) (ys : List Value) (led₁ : List (Addr × Obj)) : Prop := ∃ tl, led₁ = tl ++ led ∧ (∀ p ∈ tl, ∀ q ∈ led, q.1 < p.1) ∧ IntRows tl ys (List.replicate i [0, 0, 0, 0]) ∧ ys.Nodup
def LayJ (D : Addr) (ys : List Value) (zs : List Int) (base : List (Addr × Obj)) (j : Nat) (m₁ : Str → Option Value) (led₁ : List (Addr × Obj)) : Prop := m₁ (Str.ofString "grid") = some (.ref D) ∧ IntRows led₁ ys (gridTo zs j) ∧ KeepsOff ys base led₁
theorem t_grid (w : World) (mean : ExcName → Option Value) (mg mb : Str → Option Value) (led : List (Addr × Obj)) (d : Addr) (od : Obj) (zs : List Int) (mD : (d, od) ∈ led) (hl : IsLines PR w led d od pairs6 zs) :
    Tell w mean mg mb 155 3 led [.ref d] (fun led' v => Ext led led' ∧ ∃ R rs k, v = .ref R ∧ (R, ({ cls := .type "list", data := .seq (List.toArray rs) k } : Obj)) ∈ led' ∧ IntRows led' rs (gridTo zs 6) ∧ ∀ q ∈ led, q.1 < R ∧ Value.ref q.1 ∉ rs) := by
  intro dp un gd cn cs a₁ ccd cl outer A₀ base h₀ L m s Q E B F X N T hk hd hu hret
  refine wpAny_call ?_
  k_dflt (refine' code_def (binds := [(Str.ofString "lines", .ref d)]) ?k1 ?k2 ?k3 ?k4 ?k5 ?kA ?kF ?kK ?k6 ?k7 ?k8 ?k9 ?kB ?_ ?c2 ?c3 ?c4 ?c5; (case kA => exact rfl); (case kF => exact rfl); (case kK => first | exact rfl | assumption); (case k1 => k_asm); (case k2 => k_asm); (case k3 => k_asm); (case k4 => k_asm); (case k5 => k_asm); (case k6 => k_is); (case k7 => k_is); (case k8 => ktr_room); (case k9 => exact BindsTo.of_eq rfl); (case c5 => decide); (case kB => exact locs rfl); (case c2 => exact rfl); (case c3 => exact rfl); (case c4 => exact rfl); k_whole; intro g' L' h' FG' F' N' B' X' T'; (try dsimp only); (try k_fold))
  repeat' ((fail_if_success (first | (with_reducible refine stop_gm ?_) | (with_reducible refine stop_di ?_) | (with_reducible show wpAny _ _ (setItem (Value.ref _) (Value.int _ _) _) _ _ _) | (with_reducible refine stop_ref ?_) | (with_reducible refine stop_lc ?_) | (with_reducible refine stop_alc ?_) | (with_reducible refine stop_zip ?_) | (with_reducible show IterE1 _ _ _ _ _ _ _ _ _ _ _ _ _ _ _) | (with_reducible show IterA1 _ _ _ _ _ _ _ _ _ _ _ _ _ _ _ _) | (with_reducible show CompOut _ _ _ _ _ _ _ _ _) | (with_reducible show IterF _ _ _ _ _ _ _ _ _ _ _) | (with_reducible show ForOut _ _ _ _ _ _ _ _ _))); first | (k_unfold; (try dsimp only)) | ((with_reducible refine fort_shape ?_); k_dflt (refine ForF2 (hs := by intro _; rfl) (by k_asm) (by with_unfolding_all passes_own) ?_)) | ((with_reducible refine item_shape ?_); k_dflt (refine item_at (hs := by with_unfolding_all rfl) (by k_asm) (by k_mem) (by assumption) (by first | (with_reducible exact Int.natCast_nonneg _) | (with_reducible assumption) | decide | lia) (by first | (with_reducible assumption) | decide | lia) ?_)) | ((with_reducible refine for_shape ?_); k_dflt (refine ForF (hs := by intro _; rfl) (by k_asm) (by rfl) (by rfl) (by with_unfolding_all passes_own) ?_)) | ((with_reducible show wpAny _ _ (call (Value.builtin "len") [Value.ref _]) _ _ _); k_dflt (refine kst_len (by k_asm) (by k_mem) (by first | assumption | rfl) (by lia) ?_)) | ((with_reducible refine floordiv_int ?kbe ?_ (Or.inl (PyProof.noPylong_of_log2 ?kbp))); (case kbe => first | assumption | lia); (case kbp => assumption)) | walk1 | (dsimp only; walk1) | (leave1; (try dsimp only)) | fail "no step")
  k_dflt (refine ListComp1A (hs := by intro _; rfl) (by k_asm) (by rfl) (by with_unfolding_all rfl) (by with_unfolding_all rfl) (by decide) (by rfl) (by decide) (by rfl) (by rfl) (by rfl) ?_)
  repeat' ((fail_if_success (first | (with_reducible refine stop_gm ?_) | (with_reducible refine stop_di ?_) | (with_reducible show wpAny _ _ (setItem (Value.ref _) (Value.int _ _) _) _ _ _) | (with_reducible refine stop_ref ?_) | (with_reducible refine stop_lc ?_) | (with_reducible refine stop_alc ?_) | (with_reducible refine stop_zip ?_) | (with_reducible show IterE1 _ _ _ _ _ _ _ _ _ _ _ _ _ _ _) | (with_reducible show IterA1 _ _ _ _ _ _ _ _ _ _ _ _ _ _ _ _) | (with_reducible show CompOut _ _ _ _ _ _ _ _ _) | (with_reducible show IterF _ _ _ _ _ _ _ _ _ _ _) | (with_reducible show ForOut _ _ _ _ _ _ _ _ _))); first | (k_unfold; (try dsimp only)) | ((with_reducible refine fort_shape ?_); k_dflt (refine ForF2 (hs := by intro _; rfl) (by k_asm) (by with_unfolding_all passes_own) ?_)) | ((with_reducible refine item_shape ?_); k_dflt (refine item_at (hs := by with_unfolding_all rfl) (by k_asm) (by k_mem) (by assumption) (by first | (with_reducible exact Int.natCast_nonneg _) | (with_reducible assumption) | decide | lia) (by first | (with_reducible assumption) | decide | lia) ?_)) | ((with_reducible refine for_shape ?_); k_dflt (refine ForF (hs := by intro _; rfl) (by k_asm) (by rfl) (by rfl) (by with_unfolding_all passes_own) ?_)) | ((with_reducible show wpAny _ _ (call (Value.builtin "len") [Value.ref _]) _ _ _); k_dflt (refine kst_len (by k_asm) (by k_mem) (by first | assumption | rfl) (by lia) ?_)) | ((with_reducible refine floordiv_int ?kbe ?_ (Or.inl (PyProof.noPylong_of_log2 ?kbp))); (case kbe => first | assumption | lia); (case kbp => assumption)) | walk1 | (dsimp only; walk1) | (leave1; (try dsimp only)) | fail "no step")
  rename_i h1 tk1 t1 u1 v1 hr F1 N1 k1
  refine IterA1.range rfl F1 N1 hr (by decide) (show _ = ((4 : Nat) : Int) by decide) (by rw [sizeLine_eq]; decide) (ZeroJ led) ⟨[], rfl, (fun _ h => nomatch h), .nil, .nil⟩ ?_ ?_
  · intro i v ys led₁ own C oC m₂ h tk E' hi hv hJ hC hns hxx FV NV
    clear F1 N1 hr
    refine hide fun H9 hH9 => ?_
    obtain ⟨tl, rfl, ht, hJ, hnd⟩ := hJ
    refine hH9 ?_
    clear hH9 H9
    repeat' ((fail_if_success (first | (with_reducible refine stop_gm ?_) | (with_reducible refine stop_di ?_) | (with_reducible show wpAny _ _ (setItem (Value.ref _) (Value.int _ _) _) _ _ _) | (with_reducible refine stop_ref ?_) | (with_reducible refine stop_lc ?_) | (with_reducible refine stop_alc ?_) | (with_reducible refine stop_zip ?_) | (with_reducible show IterE1 _ _ _ _ _ _ _ _ _ _ _ _ _ _ _) | (with_reducible show IterA1 _ _ _ _ _ _ _ _ _ _ _ _ _ _ _ _) | (with_reducible show CompOut _ _ _ _ _ _ _ _ _) | (with_reducible show IterF _ _ _ _ _ _ _ _ _ _ _) | (with_reducible show ForOut _ _ _ _ _ _ _ _ _))); first | (k_unfold; (try dsimp only)) | ((with_reducible refine fort_shape ?_); k_dflt (refine ForF2 (hs := by intro _; rfl) (by k_asm) (by with_unfolding_all passes_own) ?_)) | ((with_reducible refine item_shape ?_); k_dflt (refine item_at (hs := by with_unfolding_all rfl) (by k_asm) (by k_mem) (by assumption) (by first | (with_reducible exact Int.natCast_nonneg _) | (with_reducible assumption) | decide | lia) (by first | (with_reducible assumption) | decide | lia) ?_)) | ((with_reducible refine for_shape ?_); k_dflt (refine ForF (hs := by intro _; rfl) (by k_asm) (by rfl) (by rfl) (by with_unfolding_all passes_own) ?_)) | ((with_reducible show wpAny _ _ (call (Value.builtin "len") [Value.ref _]) _ _ _); k_dflt (refine kst_len (by k_asm) (by k_mem) (by first | assumption | rfl) (by lia) ?_)) | ((with_reducible refine floordiv_int ?kbe ?_ (Or.inl (PyProof.noPylong_of_log2 ?kbp))); (case kbe => first | assumption | lia); (case kbp => assumption)) | walk1 | (dsimp only; walk1) | (leave1; (try dsimp only)) | fail "no step")
    rename_i hX Fa Na Xz hY Fb Nb ni ns n1 n2 n3 n4 lz
    have hlz := lt_of_all lz.2
    refine compOut_one Fb Nb (fun p hp => List.mem_cons_of_mem _ hp) lz ⟨_ :: tl, rfl, fun p hp q hq => ?_, ?_, ?_⟩
    · rcases List.mem_cons.mp hp with rfl | hp
      · exact hlz q (List.mem_append_right _ (List.mem_append_right _ hq))
      · exact ht p hp q hq
    · rw [List.replicate_succ']
      exact (hJ.mono fun p hp => List.mem_cons_of_mem _ hp).snoc ⟨Xz, 0, [.int 0 tk, .int 0 tk, .int 0 tk, .int 0 tk], rfl, List.mem_cons_self, .cons (.cons (.cons (.cons .nil)))⟩
    · refine List.nodup_append.mpr ⟨hnd, List.nodup_cons.mpr ⟨by simp, List.nodup_nil⟩, fun x hx y hy e => ?_⟩
      rw [List.mem_singleton.mp hy] at e
      subst e
      obtain ⟨o, ho⟩ := hJ.has hx
      exact Nat.lt_irrefl _ (hlz _ (List.mem_append_right _ (List.mem_append_left _ ho)))
  · intro D h tk ys led₁ FV NV hD hlt hlen hJ
    clear F1 N1 hr
    refine hide fun H9 hH9 => ?_
    obtain ⟨tl, rfl, ht, hJ, hnd⟩ := hJ
    have hmD : ∀ {p : Addr × Obj}, p ∈ led → p ∈ (D, LCg.lst ys) :: (tl ++ led) := fun hp => List.mem_cons_of_mem _ (List.mem_append_right _ hp)
    obtain ⟨es, ep, hx, hdat, hes, hzl, hent⟩ := lines_entry hl
    have hoffL : ∀ q ∈ led, Value.ref q.1 ∉ ys := fun q hq hy => by
      obtain ⟨o, ho⟩ := hJ.has hy
      exact Nat.lt_irrefl _ (ht _ ho q hq)
    have hoffD : Value.ref D ∉ ys := fun hy => by
      obtain ⟨o, ho⟩ := hJ.has hy
      exact hD _ (List.mem_append_left _ ho) rfl
    refine hH9 ?_
    clear hH9 H9
    repeat' ((fail_if_success (first | (with_reducible refine stop_gm ?_) | (with_reducible refine stop_di ?_) | (with_reducible show wpAny _ _ (setItem (Value.ref _) (Value.int _ _) _) _ _ _) | (with_reducible refine stop_ref ?_) | (with_reducible refine stop_lc ?_) | (with_reducible refine stop_alc ?_) | (with_reducible refine stop_zip ?_) | (with_reducible show IterE1 _ _ _ _ _ _ _ _ _ _ _ _ _ _ _) | (with_reducible show IterA1 _ _ _ _ _ _ _ _ _ _ _ _ _ _ _ _) | (with_reducible show CompOut _ _ _ _ _ _ _ _ _) | (with_reducible show IterF _ _ _ _ _ _ _ _ _ _ _) | (with_reducible show ForOut _ _ _ _ _ _ _ _ _))); first | (k_unfold; (try dsimp only)) | ((with_reducible refine fort_shape ?_); k_dflt (refine ForF2 (hs := by intro _; rfl) (by k_asm) (by with_unfolding_all passes_own) ?_)) | ((with_reducible refine item_shape ?_); k_dflt (refine item_at (hs := by with_unfolding_all rfl) (by k_asm) (by k_mem) (by assumption) (by first | (with_reducible exact Int.natCast_nonneg _) | (with_reducible assumption) | decide | lia) (by first | (with_reducible assumption) | decide | lia) ?_)) | ((with_reducible refine for_shape ?_); k_dflt (refine ForF (hs := by intro _; rfl) (by k_asm) (by rfl) (by rfl) (by with_unfolding_all passes_own) ?_)) | ((with_reducible show wpAny _ _ (call (Value.builtin "len") [Value.ref _]) _ _ _); k_dflt (refine kst_len (by k_asm) (by k_mem) (by first | assumption | rfl) (by lia) ?_)) | ((with_reducible refine floordiv_int ?kbe ?_ (Or.inl (PyProof.noPylong_of_log2 ?kbp))); (case kbe => first | assumption | lia); (case kbp => assumption)) | walk1 | (dsimp only; walk1) | (leave1; (try dsimp only)) | fail "no step")
    refine raw_method PySem.F.slot_dict_items PySem.F.type_dict_items ⟨_, (NV _ (hmD mD)).1, hx, hdat⟩ ?_
    refine callWith_method0 ?_
    refine raw_items hl.1 ⟨_, (NV _ (hmD mD)).1, hx, hdat⟩ FV NV ?_
    intro vw ov h2 hvc hvd F2 N2 lv _
    clear FV NV
    refine IterF2.items rfl F2 N2 List.mem_cons_self hvc hvd (List.mem_cons_of_mem _ (hmD mD)) hx hdat (LayJ D ys zs ((vw, ov) :: (D, LCg.lst ys) :: (tl ++ led))) ⟨by with_unfolding_all rfl, hJ.mono fun p hp => List.mem_cons_of_mem _ (List.mem_cons_of_mem _ (List.mem_append_left _ hp)), KeepsOff.refl _ _⟩ ?_ ?_
    · intro j e T2 m₁ led₁ own h3 tk3 hj he hJ2 hsep hT2 F3 N3
      refine hide fun H9 hH9 => ?_
      obtain ⟨d1, d2, d3⟩ := hJ2
      obtain ⟨a, ta, ua, va, p, z, ek9, ev9, hp, hz9, ma⟩ := hent j e he
      rw [ek9, ev9] at hT2
      have F4 := fr_known F3 d1
      obtain ⟨ha, hb⟩ := pairs6_in p (List.mem_of_getElem? hp)
      have hf := four_grid zs j
      have hM := d2.mono (led' := own ++ led₁) fun p hp => List.mem_append_right _ hp
      have ma2 : (a, ({ cls := .type "tuple", data := .seq #[.int p.1 ta, .int p.2 ua] } : Obj)) ∈ own ++ led₁ := List.mem_append_right _ (d3.1 _ (List.mem_cons_of_mem _ (hmD ma)) (hoffL _ ma))
      have mD2 : (D, LCg.lst ys) ∈ own ++ led₁ := List.mem_append_right _ (d3.1 _ (List.mem_cons_of_mem _ List.mem_cons_self) hoffD)
      generalize hL2 : own ++ led₁ = led2 at *
      generalize hMe : gridTo zs j = M at *
      obtain ⟨za, ea, -, -⟩ := hf.row ha
      obtain ⟨_, hra, ra, _, _, rfl, -, -⟩ := hM.at ea
      obtain ⟨zb, eb, -, -⟩ := hf.row hb
      obtain ⟨_, hrb, rb, _, _, rfl, -, -⟩ := hM.at eb
      obtain ⟨k1, cs1, s1, m1, c1⟩ := cell_of hM hf ha ha hra
      obtain ⟨k2, cs2, s2, m2, c2⟩ := cell_of hM hf hb hb hrb
      refine hH9 ?_
      clear hH9 H9 F3
      repeat' ((fail_if_success (first | (with_reducible refine stop_gm ?_) | (with_reducible refine stop_di ?_) | (with_reducible show wpAny _ _ (setItem (Value.ref _) (Value.int _ _) _) _ _ _) | (with_reducible refine stop_ref ?_) | (with_reducible refine stop_lc ?_) | (with_reducible refine stop_alc ?_) | (with_reducible refine stop_zip ?_) | (with_reducible show IterE1 _ _ _ _ _ _ _ _ _ _ _ _ _ _ _) | (with_reducible show IterA1 _ _ _ _ _ _ _ _ _ _ _ _ _ _ _ _) | (with_reducible show CompOut _ _ _ _ _ _ _ _ _) | (with_reducible show IterF _ _ _ _ _ _ _ _ _ _ _) | (with_reducible show ForOut _ _ _ _ _ _ _ _ _))); first | (k_unfold; (try dsimp only)) | ((with_reducible refine fort_shape ?_); k_dflt (refine ForF2 (hs := by intro _; rfl) (by k_asm) (by with_unfolding_all passes_own) ?_)) | ((with_reducible refine item_shape ?_); k_dflt (refine item_at (hs := by with_unfolding_all rfl) (by k_asm) (by k_mem) (by assumption) (by first | (with_reducible exact Int.natCast_nonneg _) | (with_reducible assumption) | decide | lia) (by first | (with_reducible assumption) | decide | lia) ?_)) | ((with_reducible refine for_shape ?_); k_dflt (refine ForF (hs := by intro _; rfl) (by k_asm) (by rfl) (by rfl) (by with_unfolding_all passes_own) ?_)) | ((with_reducible show wpAny _ _ (call (Value.builtin "len") [Value.ref _]) _ _ _); k_dflt (refine kst_len (by k_asm) (by k_mem) (by first | assumption | rfl) (by lia) ?_)) | ((with_reducible refine floordiv_int ?kbe ?_ (Or.inl (PyProof.noPylong_of_log2 ?kbp))); (case kbe => first | assumption | lia); (case kbp => assumption)) | walk1 | (dsimp only; walk1) | (leave1; (try dsimp only)) | fail "no step")
      rename_i X1 hX1 lX1 hX2 FA NA
      refine cell_set hM hf hnd FA (News.drop NA fun _ h => List.mem_cons_of_mem _ h) ha ha hra ?_
      intro hA ledA FA2 NA2 KA MA
      have mDA := KA.1 _ mD2 hoffD
      clear m1 m2 c1 c2 FA NA lX1 N3
      repeat' ((fail_if_success (first | (with_reducible refine stop_gm ?_) | (with_reducible refine stop_di ?_) | (with_reducible show wpAny _ _ (setItem (Value.ref _) (Value.int _ _) _) _ _ _) | (with_reducible refine stop_ref ?_) | (with_reducible refine stop_lc ?_) | (with_reducible refine stop_alc ?_) | (with_reducible refine stop_zip ?_) | (with_reducible show IterE1 _ _ _ _ _ _ _ _ _ _ _ _ _ _ _) | (with_reducible show IterA1 _ _ _ _ _ _ _ _ _ _ _ _ _ _ _ _) | (with_reducible show CompOut _ _ _ _ _ _ _ _ _) | (with_reducible show IterF _ _ _ _ _ _ _ _ _ _ _) | (with_reducible show ForOut _ _ _ _ _ _ _ _ _))); first | (k_unfold; (try dsimp only)) | ((with_reducible refine fort_shape ?_); k_dflt (refine ForF2 (hs := by intro _; rfl) (by k_asm) (by with_unfolding_all passes_own) ?_)) | ((with_reducible refine item_shape ?_); k_dflt (refine item_at (hs := by with_unfolding_all rfl) (by k_asm) (by k_mem) (by assumption) (by first | (with_reducible exact Int.natCast_nonneg _) | (with_reducible assumption) | decide | lia) (by first | (with_reducible assumption) | decide | lia) ?_)) | ((with_reducible refine for_shape ?_); k_dflt (refine ForF (hs := by intro _; rfl) (by k_asm) (by rfl) (by rfl) (by with_unfolding_all passes_own) ?_)) | ((with_reducible show wpAny _ _ (call (Value.builtin "len") [Value.ref _]) _ _ _); k_dflt (refine kst_len (by k_asm) (by k_mem) (by first | assumption | rfl) (by lia) ?_)) | ((with_reducible refine floordiv_int ?kbe ?_ (Or.inl (PyProof.noPylong_of_log2 ?kbp))); (case kbe => first | assumption | lia); (case kbp => assumption)) | walk1 | (dsimp only; walk1) | (leave1; (try dsimp only)) | fail "no step")
      refine cell_set MA (hf.setI ha) hnd (by k_asm) (by k_asm) hb hb hrb ?_
      intro hC ledB FB2 NB2 KB MB
      have mDB := KB.1 _ mDA hoffD
      have hf2 := hf.addM (m := z) ha hb
      have K2 := KA.trans KB
      have hM2 : IntRows ledB ys (addM M p.1 p.2 z) := MB
      clear MB MA KA KB mDA FA2 NA2
      generalize hM2e : addM M p.1 p.2 z = M2 at *
      obtain ⟨k1, cs1, s1, m1, c1⟩ := cell_of hM2 hf2 ha hb hra
      obtain ⟨k2, cs2, s2, m2, c2⟩ := cell_of hM2 hf2 hb ha hrb
      repeat' ((fail_if_success (first | (with_reducible refine stop_gm ?_) | (with_reducible refine stop_di ?_) | (with_reducible show wpAny _ _ (setItem (Value.ref _) (Value.int _ _) _) _ _ _) | (with_reducible refine stop_ref ?_) | (with_reducible refine stop_lc ?_) | (with_reducible refine stop_alc ?_) | (with_reducible refine stop_zip ?_) | (with_reducible show IterE1 _ _ _ _ _ _ _ _ _ _ _ _ _ _ _) | (with_reducible show IterA1 _ _ _ _ _ _ _ _ _ _ _ _ _ _ _ _) | (with_reducible show CompOut _ _ _ _ _ _ _ _ _) | (with_reducible show IterF _ _ _ _ _ _ _ _ _ _ _) | (with_reducible show ForOut _ _ _ _ _ _ _ _ _))); first | (k_unfold; (try dsimp only)) | ((with_reducible refine fort_shape ?_); k_dflt (refine ForF2 (hs := by intro _; rfl) (by k_asm) (by with_unfolding_all passes_own) ?_)) | ((with_reducible refine item_shape ?_); k_dflt (refine item_at (hs := by with_unfolding_all rfl) (by k_asm) (by k_mem) (by assumption) (by first | (with_reducible exact Int.natCast_nonneg _) | (with_reducible assumption) | decide | lia) (by first | (with_reducible assumption) | decide | lia) ?_)) | ((with_reducible refine for_shape ?_); k_dflt (refine ForF (hs := by intro _; rfl) (by k_asm) (by rfl) (by rfl) (by with_unfolding_all passes_own) ?_)) | ((with_reducible show wpAny _ _ (call (Value.builtin "len") [Value.ref _]) _ _ _); k_dflt (refine kst_len (by k_asm) (by k_mem) (by first | assumption | rfl) (by lia) ?_)) | ((with_reducible refine floordiv_int ?kbe ?_ (Or.inl (PyProof.noPylong_of_log2 ?kbp))); (case kbe => first | assumption | lia); (case kbp => assumption)) | walk1 | (dsimp only; walk1) | (leave1; (try dsimp only)) | fail "no step")
      rename_i X3 hX3 lX3 hX4 FC NC
      refine cell_set hM2 hf2 hnd FC (News.drop NC fun _ h => List.mem_cons_of_mem _ h) ha hb hra ?_
      intro hD4 ledC FC2 NC2 KC MC
      have mDC := KC.1 _ mDB hoffD
      clear m1 m2 c1 c2 FC NC lX3
      repeat' ((fail_if_success (first | (with_reducible refine stop_gm ?_) | (with_reducible refine stop_di ?_) | (with_reducible show wpAny _ _ (setItem (Value.ref _) (Value.int _ _) _) _ _ _) | (with_reducible refine stop_ref ?_) | (with_reducible refine stop_lc ?_) | (with_reducible refine stop_alc ?_) | (with_reducible refine stop_zip ?_) | (with_reducible show IterE1 _ _ _ _ _ _ _ _ _ _ _ _ _ _ _) | (with_reducible show IterA1 _ _ _ _ _ _ _ _ _ _ _ _ _ _ _ _) | (with_reducible show CompOut _ _ _ _ _ _ _ _ _) | (with_reducible show IterF _ _ _ _ _ _ _ _ _ _ _) | (with_reducible show ForOut _ _ _ _ _ _ _ _ _))); first | (k_unfold; (try dsimp only)) | ((with_reducible refine fort_shape ?_); k_dflt (refine ForF2 (hs := by intro _; rfl) (by k_asm) (by with_unfolding_all passes_own) ?_)) | ((with_reducible refine item_shape ?_); k_dflt (refine item_at (hs := by with_unfolding_all rfl) (by k_asm) (by k_mem) (by assumption) (by first | (with_reducible exact Int.natCast_nonneg _) | (with_reducible assumption) | decide | lia) (by first | (with_reducible assumption) | decide | lia) ?_)) | ((with_reducible refine for_shape ?_); k_dflt (refine ForF (hs := by intro _; rfl) (by k_asm) (by rfl) (by rfl) (by with_unfolding_all passes_own) ?_)) | ((with_reducible show wpAny _ _ (call (Value.builtin "len") [Value.ref _]) _ _ _); k_dflt (refine kst_len (by k_asm) (by k_mem) (by first | assumption | rfl) (by lia) ?_)) | ((with_reducible refine floordiv_int ?kbe ?_ (Or.inl (PyProof.noPylong_of_log2 ?kbp))); (case kbe => first | assumption | lia); (case kbp => assumption)) | walk1 | (dsimp only; walk1) | (leave1; (try dsimp only)) | fail "no step")
      refine cell_set MC (hf2.setI ha) hnd (by k_asm) (by k_asm) hb ha hrb ?_
      intro hF ledD FE2 NE2 KD MD
      have K4 := (K2.trans KC).trans KD
      have hN : gridTo zs (j + 1) = subM M2 p.1 p.2 z := by rw [gridTo_succ hp hz9, hMe, hM2e]
      repeat' ((fail_if_success (first | (with_reducible refine stop_gm ?_) | (with_reducible refine stop_di ?_) | (with_reducible show wpAny _ _ (setItem (Value.ref _) (Value.int _ _) _) _ _ _) | (with_reducible refine stop_ref ?_) | (with_reducible refine stop_lc ?_) | (with_reducible refine stop_alc ?_) | (with_reducible refine stop_zip ?_) | (with_reducible show IterE1 _ _ _ _ _ _ _ _ _ _ _ _ _ _ _) | (with_reducible show IterA1 _ _ _ _ _ _ _ _ _ _ _ _ _ _ _ _) | (with_reducible show CompOut _ _ _ _ _ _ _ _ _) | (with_reducible show IterF _ _ _ _ _ _ _ _ _ _ _) | (with_reducible show ForOut _ _ _ _ _ _ _ _ _))); first | (k_unfold; (try dsimp only)) | ((with_reducible refine fort_shape ?_); k_dflt (refine ForF2 (hs := by intro _; rfl) (by k_asm) (by with_unfolding_all passes_own) ?_)) | ((with_reducible refine item_shape ?_); k_dflt (refine item_at (hs := by with_unfolding_all rfl) (by k_asm) (by k_mem) (by assumption) (by first | (with_reducible exact Int.natCast_nonneg _) | (with_reducible assumption) | decide | lia) (by first | (with_reducible assumption) | decide | lia) ?_)) | ((with_reducible refine for_shape ?_); k_dflt (refine ForF (hs := by intro _; rfl) (by k_asm) (by rfl) (by rfl) (by with_unfolding_all passes_own) ?_)) | ((with_reducible show wpAny _ _ (call (Value.builtin "len") [Value.ref _]) _ _ _); k_dflt (refine kst_len (by k_asm) (by k_mem) (by first | assumption | rfl) (by lia) ?_)) | ((with_reducible refine floordiv_int ?kbe ?_ (Or.inl (PyProof.noPylong_of_log2 ?kbp))); (case kbe => first | assumption | lia); (case kbp => assumption)) | walk1 | (dsimp only; walk1) | (leave1; (try dsimp only)) | fail "no step")
      refine hide fun H9 hH9 => ?_
      obtain ⟨led3, q1, q2, q3, q4⟩ := keep_turn (hL2 ▸ K4) (fun r hr => d2.has hr) (fun q hq hy => (hsep q hq).elim (fun h => by obtain ⟨o, ho⟩ := d2.has hy; exact h _ ho rfl) fun h => hoffL _ mD (by rw [← h]; exact hy))
      refine hH9 ?_
      exact ⟨hF, _, _, led3, rfl, FE2, News.drop NE2 q1, fun p hp => .inl (q2 p hp), by with_unfolding_all rfl, by rw [hN]; exact MD.restrict q4, d3.trans q3⟩
    · intro h3 tk3 m₁ led₁ hJ2 F3 N3
      refine hide fun H9 hH9 => ?_
      obtain ⟨d1, d2, d3⟩ := hJ2
      rw [hes, show pairs6.length = 6 from rfl] at d2
      have F4 := fr_known F3 d1
      obtain ⟨led', hE, hs1, hs2⟩ := Ext.of_above (keep_above (led := led) d3 N3 (fun p hp => by
        rcases List.mem_cons.mp hp with rfl | hp
        · exact .inr fun q hq => lv q (hmD hq)
        · rcases List.mem_cons.mp hp with rfl | hp
          · exact .inr fun q hq => hlt q hq
          · rcases List.mem_append.mp hp with hp | hp
            · exact .inr fun q hq => ht p hp q hq
            · exact .inl hp) (fun p hp => List.mem_cons_of_mem _ (hmD hp)) hoffL)
      refine hH9 ?_
      clear hH9 H9 F3
      repeat' ((fail_if_success (first | (with_reducible refine stop_gm ?_) | (with_reducible refine stop_di ?_) | (with_reducible show wpAny _ _ (setItem (Value.ref _) (Value.int _ _) _) _ _ _) | (with_reducible refine stop_ref ?_) | (with_reducible refine stop_lc ?_) | (with_reducible refine stop_alc ?_) | (with_reducible refine stop_zip ?_) | (with_reducible show IterE1 _ _ _ _ _ _ _ _ _ _ _ _ _ _ _) | (with_reducible show IterA1 _ _ _ _ _ _ _ _ _ _ _ _ _ _ _ _) | (with_reducible show CompOut _ _ _ _ _ _ _ _ _) | (with_reducible show IterF _ _ _ _ _ _ _ _ _ _ _) | (with_reducible show ForOut _ _ _ _ _ _ _ _ _))); first | (k_unfold; (try dsimp only)) | ((with_reducible refine fort_shape ?_); k_dflt (refine ForF2 (hs := by intro _; rfl) (by k_asm) (by with_unfolding_all passes_own) ?_)) | ((with_reducible refine item_shape ?_); k_dflt (refine item_at (hs := by with_unfolding_all rfl) (by k_asm) (by k_mem) (by assumption) (by first | (with_reducible exact Int.natCast_nonneg _) | (with_reducible assumption) | decide | lia) (by first | (with_reducible assumption) | decide | lia) ?_)) | ((with_reducible refine for_shape ?_); k_dflt (refine ForF (hs := by intro _; rfl) (by k_asm) (by rfl) (by rfl) (by with_unfolding_all passes_own) ?_)) | ((with_reducible show wpAny _ _ (call (Value.builtin "len") [Value.ref _]) _ _ _); k_dflt (refine kst_len (by k_asm) (by k_mem) (by first | assumption | rfl) (by lia) ?_)) | ((with_reducible refine floordiv_int ?kbe ?_ (Or.inl (PyProof.noPylong_of_log2 ?kbp))); (case kbe => first | assumption | lia); (case kbp => assumption)) | walk1 | (dsimp only; walk1) | (leave1; (try dsimp only)) | fail "no step")
      exact hret _ led' _ _ (by k_asm) (News.drop (by k_asm) hs1) ⟨hE, D, ys, _, rfl, hs2 _ (d3.1 _ (List.mem_cons_of_mem _ List.mem_cons_self) hoffD), d2.mono hs2, fun q hq => ⟨hlt q hq, hoffL q hq⟩⟩
end
section
theorem t_lsolved (w : World) (mean : ExcName → Option Value) (mg mb : Str → Option Value) (led : List (Addr × Obj)) (M : List (List Int)) (G : Addr) (kG : Nat) (gs : List Value) (mG : (G, ({ cls := .type "list", data := .seq (List.toArray gs) kG } : Obj)) ∈ led) (hM : IntRows led gs M) (hl : M.length = 4) (hw : ∀ zs ∈ M, zs.length = 4) (hz : ∀ zs ∈ M, ∀ z ∈ zs, z.natAbs < 2 ^ 10) (a b : Int) (ta tb : Tok) (k : Nat) (qs : List Rat) (q : Rat) (h1 : (but1 b).length = 3) (gk : (but1 b)[k]? = some a) (gkm : ∀ i : Nat, i < k → (but1 b)[i]? ≠ some a) (glay : PyData.layable0 (.list ((but1 b).map .int)) = true)
    (hs : (solveM 3 3 0 (augM M (but1 b) a) 1).1[k]? = some qs) (hq : qs[3]? = some q) :
    Tell w mean mg mb 172 10 led [.ref G, .int a ta, .int b tb] (fun led' v => Ext led led' ∧ ∃ y t u, v = .ref y ∧ (y, ({ cls := .type "tuple", data := .seq #[.int q.num t, .int (q.den : Nat) u] } : Obj)) ∈ led') := by
  intro dp un gd cn cs a₁ ccd cl outer A₀ base h₀ L m s Q E B F X N T hk hd hu hret
  refine wpAny_call ?_
  k_dflt (refine' code_defC (binds := [(Str.ofString "grid", .ref G), (Str.ofString "one", .int a ta), (Str.ofString "other", .int b tb)]) ?k1 ?k2 ?k3 ?k4 ?k5 ?kA ?kF ?kK ?k6 ?k7 ?k8 ?k9 ?kB ?kD ?_ ?c2 ?c3 ?c4; (case kA => exact rfl); (case kF => exact rfl); (case kK => first | exact rfl | assumption); (case k1 => k_asm); (case k2 => k_asm); (case k3 => k_asm); (case k4 => k_asm); (case k5 => k_asm); (case k6 => k_is); (case k7 => k_is); (case k8 => ktr_room); (case k9 => exact BindsTo.of_eq rfl); (case kB => exact rfl); (case kD => decide +kernel); (case c2 => exact rfl); (case c3 => exact rfl); (case c4 => exact rfl); k_whole; intro g' L' h' tk' cells' FG' F' N' Y' B' X' T' l1; (try k_lt l1); k_cells Y'; (try simp only [List.cons_append, List.nil_append] at N'); (try dsimp only); (try k_fold))
  repeat' ((fail_if_success (first | (with_reducible refine stop_li ?_) | (with_reducible refine stop_gm ?_) | (with_reducible show LCt.CompSrcT _ _ _ _ _ _ _ _ _ _ _ _ _ _ _) | (with_reducible refine stop_la ?_) | (with_reducible refine stop_ref ?_) | (with_reducible refine stop_lc ?_) | (with_reducible refine stop_alc ?_) | (with_reducible refine stop_zip ?_) | (with_reducible show IterE1 _ _ _ _ _ _ _ _ _ _ _ _ _ _ _) | (with_reducible show IterA1 _ _ _ _ _ _ _ _ _ _ _ _ _ _ _ _) | (with_reducible show CompOut _ _ _ _ _ _ _ _ _) | (with_reducible show IterF _ _ _ _ _ _ _ _ _ _ _) | (with_reducible show ForOut _ _ _ _ _ _ _ _ _))); first | (k_unfold; (try dsimp only)) | ((with_reducible refine fort_shape ?_); k_dflt (refine ForF2 (hs := by intro _; rfl) (by k_asm) (by with_unfolding_all passes_own) ?_)) | ((with_reducible refine item_shape ?_); k_dflt (refine item_at (hs := by with_unfolding_all rfl) (by k_asm) (by k_mem) (by assumption) (by first | (with_reducible exact Int.natCast_nonneg _) | (with_reducible assumption) | decide | lia) (by first | (with_reducible assumption) | decide | lia) ?_)) | ((with_reducible refine for_shape ?_); k_dflt (refine ForF (hs := by intro _; rfl) (by k_asm) (by rfl) (by rfl) (by with_unfolding_all passes_own) ?_)) | ((with_reducible show wpAny _ _ (call (Value.builtin "len") [Value.ref _]) _ _ _); k_dflt (refine kst_len (by k_asm) (by k_mem) (by first | assumption | rfl) (by lia) ?_)) | ((with_reducible refine floordiv_int ?kbe ?_ (Or.inl (PyProof.noPylong_of_log2 ?kbp))); (case kbe => first | assumption | lia); (case kbp => assumption)) | walk1 | (dsimp only; walk1) | (leave1; (try dsimp only)) | fail "no step")
  rename_i oO dO
  have dO' : oO.data = .cell (some (.int b tb)) := dO
  clear dO
  k_dflt (refine LCt.Assign_ListComp_T (by k_asm) (by rfl) (by with_unfolding_all rfl) (by with_unfolding_all rfl) (by decide) (by rfl) (by decide) (by rfl) (by rfl) (by rfl) ?_)
  repeat' ((fail_if_success (first | (with_reducible refine stop_li ?_) | (with_reducible refine stop_gm ?_) | (with_reducible show LCt.CompSrcT _ _ _ _ _ _ _ _ _ _ _ _ _ _ _) | (with_reducible refine stop_la ?_) | (with_reducible refine stop_ref ?_) | (with_reducible refine stop_lc ?_) | (with_reducible refine stop_alc ?_) | (with_reducible refine stop_zip ?_) | (with_reducible show IterE1 _ _ _ _ _ _ _ _ _ _ _ _ _ _ _) | (with_reducible show IterA1 _ _ _ _ _ _ _ _ _ _ _ _ _ _ _ _) | (with_reducible show CompOut _ _ _ _ _ _ _ _ _) | (with_reducible show IterF _ _ _ _ _ _ _ _ _ _ _) | (with_reducible show ForOut _ _ _ _ _ _ _ _ _))); first | (k_unfold; (try dsimp only)) | ((with_reducible refine fort_shape ?_); k_dflt (refine ForF2 (hs := by intro _; rfl) (by k_asm) (by with_unfolding_all passes_own) ?_)) | ((with_reducible refine item_shape ?_); k_dflt (refine item_at (hs := by with_unfolding_all rfl) (by k_asm) (by k_mem) (by assumption) (by first | (with_reducible exact Int.natCast_nonneg _) | (with_reducible assumption) | decide | lia) (by first | (with_reducible assumption) | decide | lia) ?_)) | ((with_reducible refine for_shape ?_); k_dflt (refine ForF (hs := by intro _; rfl) (by k_asm) (by rfl) (by rfl) (by with_unfolding_all passes_own) ?_)) | ((with_reducible show wpAny _ _ (call (Value.builtin "len") [Value.ref _]) _ _ _); k_dflt (refine kst_len (by k_asm) (by k_mem) (by first | assumption | rfl) (by lia) ?_)) | ((with_reducible refine floordiv_int ?kbe ?_ (Or.inl (PyProof.noPylong_of_log2 ?kbp))); (case kbe => first | assumption | lia); (case kbp => assumption)) | walk1 | (dsimp only; walk1) | (leave1; (try dsimp only)) | fail "no step")
  rename_i h1' tk1 t1 u1 v1 hr F1 N1 k1
  refine LCt.CompSrcT.range rfl F1 N1 hr (by decide) (show _ = ((4 : Nat) : Int) by decide) (by rw [sizeLine_eq]; decide) fun gg => kept_rest (fun i => !([b].any (· == ((i : Nat) : Int)))) 4 ?_ ?_ ?_ 4 0 [] rfl .nil
  · intro i t I oI C oC D ys m₂ h tk E' R hi hns hx F2 N2 hR
    (try clear F1); (try clear N1)
    repeat' ((fail_if_success (first | (with_reducible refine stop_li ?_) | (with_reducible refine stop_gm ?_) | (with_reducible show LCt.CompSrcT _ _ _ _ _ _ _ _ _ _ _ _ _ _ _) | (with_reducible refine stop_la ?_) | (with_reducible refine stop_ref ?_) | (with_reducible refine stop_lc ?_) | (with_reducible refine stop_alc ?_) | (with_reducible refine stop_zip ?_) | (with_reducible show IterE1 _ _ _ _ _ _ _ _ _ _ _ _ _ _ _) | (with_reducible show IterA1 _ _ _ _ _ _ _ _ _ _ _ _ _ _ _ _) | (with_reducible show CompOut _ _ _ _ _ _ _ _ _) | (with_reducible show IterF _ _ _ _ _ _ _ _ _ _ _) | (with_reducible show ForOut _ _ _ _ _ _ _ _ _))); first | (k_unfold; (try dsimp only)) | ((with_reducible refine fort_shape ?_); k_dflt (refine ForF2 (hs := by intro _; rfl) (by k_asm) (by with_unfolding_all passes_own) ?_)) | ((with_reducible refine item_shape ?_); k_dflt (refine item_at (hs := by with_unfolding_all rfl) (by k_asm) (by k_mem) (by assumption) (by first | (with_reducible exact Int.natCast_nonneg _) | (with_reducible assumption) | decide | lia) (by first | (with_reducible assumption) | decide | lia) ?_)) | ((with_reducible refine for_shape ?_); k_dflt (refine ForF (hs := by intro _; rfl) (by k_asm) (by rfl) (by rfl) (by with_unfolding_all passes_own) ?_)) | ((with_reducible show wpAny _ _ (call (Value.builtin "len") [Value.ref _]) _ _ _); k_dflt (refine kst_len (by k_asm) (by k_mem) (by first | assumption | rfl) (by lia) ?_)) | ((with_reducible refine floordiv_int ?kbe ?_ (Or.inl (PyProof.noPylong_of_log2 ?kbp))); (case kbe => first | assumption | lia); (case kbp => assumption)) | walk1 | (dsimp only; walk1) | (leave1; (try dsimp only)) | fail "no step")
    rw [keep_one]
    exact hR _ _ (by k_asm) (by k_asm)
  · intro i t I oI C oC D ys m₂ h tk E' R hi hns hx F2 N2 hR
    (try clear F1); (try clear N1)
    repeat' ((fail_if_success (first | (with_reducible refine stop_li ?_) | (with_reducible refine stop_gm ?_) | (with_reducible show LCt.CompSrcT _ _ _ _ _ _ _ _ _ _ _ _ _ _ _) | (with_reducible refine stop_la ?_) | (with_reducible refine stop_ref ?_) | (with_reducible refine stop_lc ?_) | (with_reducible refine stop_alc ?_) | (with_reducible refine stop_zip ?_) | (with_reducible show IterE1 _ _ _ _ _ _ _ _ _ _ _ _ _ _ _) | (with_reducible show IterA1 _ _ _ _ _ _ _ _ _ _ _ _ _ _ _ _) | (with_reducible show CompOut _ _ _ _ _ _ _ _ _) | (with_reducible show IterF _ _ _ _ _ _ _ _ _ _ _) | (with_reducible show ForOut _ _ _ _ _ _ _ _ _))); first | (k_unfold; (try dsimp only)) | ((with_reducible refine fort_shape ?_); k_dflt (refine ForF2 (hs := by intro _; rfl) (by k_asm) (by with_unfolding_all passes_own) ?_)) | ((with_reducible refine item_shape ?_); k_dflt (refine item_at (hs := by with_unfolding_all rfl) (by k_asm) (by k_mem) (by assumption) (by first | (with_reducible exact Int.natCast_nonneg _) | (with_reducible assumption) | decide | lia) (by first | (with_reducible assumption) | decide | lia) ?_)) | ((with_reducible refine for_shape ?_); k_dflt (refine ForF (hs := by intro _; rfl) (by k_asm) (by rfl) (by rfl) (by with_unfolding_all passes_own) ?_)) | ((with_reducible show wpAny _ _ (call (Value.builtin "len") [Value.ref _]) _ _ _); k_dflt (refine kst_len (by k_asm) (by k_mem) (by first | assumption | rfl) (by lia) ?_)) | ((with_reducible refine floordiv_int ?kbe ?_ (Or.inl (PyProof.noPylong_of_log2 ?kbp))); (case kbe => first | assumption | lia); (case kbp => assumption)) | walk1 | (dsimp only; walk1) | (leave1; (try dsimp only)) | fail "no step")
    exact hR _ _ (by k_asm) (by k_asm)
  · intro ys hys D h2 tk2 F2 N2 off
    (try clear F1); (try clear N1)
    have o1 : @Ne Nat (L' + 1) D := off.1
    repeat' ((fail_if_success (first | (with_reducible refine stop_li ?_) | (with_reducible refine stop_gm ?_) | (with_reducible show LCt.CompSrcT _ _ _ _ _ _ _ _ _ _ _ _ _ _ _) | (with_reducible refine stop_la ?_) | (with_reducible refine stop_ref ?_) | (with_reducible refine stop_lc ?_) | (with_reducible refine stop_alc ?_) | (with_reducible refine stop_zip ?_) | (with_reducible show IterE1 _ _ _ _ _ _ _ _ _ _ _ _ _ _ _) | (with_reducible show IterA1 _ _ _ _ _ _ _ _ _ _ _ _ _ _ _ _) | (with_reducible show CompOut _ _ _ _ _ _ _ _ _) | (with_reducible show IterF _ _ _ _ _ _ _ _ _ _ _) | (with_reducible show ForOut _ _ _ _ _ _ _ _ _))); first | (k_unfold; (try dsimp only)) | ((with_reducible refine fort_shape ?_); k_dflt (refine ForF2 (hs := by intro _; rfl) (by k_asm) (by with_unfolding_all passes_own) ?_)) | ((with_reducible refine item_shape ?_); k_dflt (refine item_at (hs := by with_unfolding_all rfl) (by k_asm) (by k_mem) (by assumption) (by first | (with_reducible exact Int.natCast_nonneg _) | (with_reducible assumption) | decide | lia) (by first | (with_reducible assumption) | decide | lia) ?_)) | ((with_reducible refine for_shape ?_); k_dflt (refine ForF (hs := by intro _; rfl) (by k_asm) (by rfl) (by rfl) (by with_unfolding_all passes_own) ?_)) | ((with_reducible show wpAny _ _ (call (Value.builtin "len") [Value.ref _]) _ _ _); k_dflt (refine kst_len (by k_asm) (by k_mem) (by first | assumption | rfl) (by lia) ?_)) | ((with_reducible refine floordiv_int ?kbe ?_ (Or.inl (PyProof.noPylong_of_log2 ?kbp))); (case kbe => first | assumption | lia); (case kbp => assumption)) | walk1 | (dsimp only; walk1) | (leave1; (try dsimp only)) | fail "no step")
    k_dflt (refine ListComp1A (hs := by intro _; rfl) (by k_asm) (by rfl) (by with_unfolding_all rfl) (by with_unfolding_all rfl) (by decide) (by rfl) (by decide) (by rfl) (by rfl) (by rfl) ?_)
    repeat' ((fail_if_success (first | (with_reducible refine stop_li ?_) | (with_reducible refine stop_gm ?_) | (with_reducible show LCt.CompSrcT _ _ _ _ _ _ _ _ _ _ _ _ _ _ _) | (with_reducible refine stop_la ?_) | (with_reducible refine stop_ref ?_) | (with_reducible refine stop_lc ?_) | (with_reducible refine stop_alc ?_) | (with_reducible refine stop_zip ?_) | (with_reducible show IterE1 _ _ _ _ _ _ _ _ _ _ _ _ _ _ _) | (with_reducible show IterA1 _ _ _ _ _ _ _ _ _ _ _ _ _ _ _ _) | (with_reducible show CompOut _ _ _ _ _ _ _ _ _) | (with_reducible show IterF _ _ _ _ _ _ _ _ _ _ _) | (with_reducible show ForOut _ _ _ _ _ _ _ _ _))); first | (k_unfold; (try dsimp only)) | ((with_reducible refine fort_shape ?_); k_dflt (refine ForF2 (hs := by intro _; rfl) (by k_asm) (by with_unfolding_all passes_own) ?_)) | ((with_reducible refine item_shape ?_); k_dflt (refine item_at (hs := by with_unfolding_all rfl) (by k_asm) (by k_mem) (by assumption) (by first | (with_reducible exact Int.natCast_nonneg _) | (with_reducible assumption) | decide | lia) (by first | (with_reducible assumption) | decide | lia) ?_)) | ((with_reducible refine for_shape ?_); k_dflt (refine ForF (hs := by intro _; rfl) (by k_asm) (by rfl) (by rfl) (by with_unfolding_all passes_own) ?_)) | ((with_reducible show wpAny _ _ (call (Value.builtin "len") [Value.ref _]) _ _ _); k_dflt (refine kst_len (by k_asm) (by k_mem) (by first | assumption | rfl) (by lia) ?_)) | ((with_reducible refine floordiv_int ?kbe ?_ (Or.inl (PyProof.noPylong_of_log2 ?kbp))); (case kbe => first | assumption | lia); (case kbp => assumption)) | walk1 | (dsimp only; walk1) | (leave1; (try dsimp only)) | fail "no step")
    rename_i Z1 hZ1 FZ1 NZ1 lZ1
    refine Tell.goM (N := by k_asm) (B := by k_asm) (F := by k_asm) (X := by k_asm) (T := by k_asm) (hk := by first | exact rfl | assumption) (C := t_cut w mean mg mb _ M G Z1 kG _ gs _ [b] (by k_mem) (hM.mono fun p hp => by repeat (first | assumption | refine List.mem_cons_of_mem _ ?_)) hl hw (by k_mem) (.cons .nil) (show 1 ≤ 4 by decide)) (ret := ?_) (hd := by first | decide | exact room1 (by assumption) (by decide) | ktr_room) (hu := by first | decide | exact units1 (by assumption) (by decide) | ktr_units)
    intro tl1 R1 rs1 kk1 h1' tk1 ht1 mR1 hR1 F1 N1
    dsimp only
    repeat' ((fail_if_success (first | (with_reducible refine stop_li ?_) | (with_reducible refine stop_gm ?_) | (with_reducible show LCt.CompSrcT _ _ _ _ _ _ _ _ _ _ _ _ _ _ _) | (with_reducible refine stop_la ?_) | (with_reducible refine stop_ref ?_) | (with_reducible refine stop_lc ?_) | (with_reducible refine stop_alc ?_) | (with_reducible refine stop_zip ?_) | (with_reducible show IterE1 _ _ _ _ _ _ _ _ _ _ _ _ _ _ _) | (with_reducible show IterA1 _ _ _ _ _ _ _ _ _ _ _ _ _ _ _ _) | (with_reducible show CompOut _ _ _ _ _ _ _ _ _) | (with_reducible show IterF _ _ _ _ _ _ _ _ _ _ _) | (with_reducible show ForOut _ _ _ _ _ _ _ _ _))); first | (k_unfold; (try dsimp only)) | ((with_reducible refine fort_shape ?_); k_dflt (refine ForF2 (hs := by intro _; rfl) (by k_asm) (by with_unfolding_all passes_own) ?_)) | ((with_reducible refine item_shape ?_); k_dflt (refine item_at (hs := by with_unfolding_all rfl) (by k_asm) (by k_mem) (by assumption) (by first | (with_reducible exact Int.natCast_nonneg _) | (with_reducible assumption) | decide | lia) (by first | (with_reducible assumption) | decide | lia) ?_)) | ((with_reducible refine for_shape ?_); k_dflt (refine ForF (hs := by intro _; rfl) (by k_asm) (by rfl) (by rfl) (by with_unfolding_all passes_own) ?_)) | ((with_reducible show wpAny _ _ (call (Value.builtin "len") [Value.ref _]) _ _ _); k_dflt (refine kst_len (by k_asm) (by k_mem) (by first | assumption | rfl) (by lia) ?_)) | ((with_reducible refine floordiv_int ?kbe ?_ (Or.inl (PyProof.noPylong_of_log2 ?kbp))); (case kbe => first | assumption | lia); (case kbp => assumption)) | walk1 | (dsimp only; walk1) | (leave1; (try dsimp only)) | fail "no step")
    have hc3 : (cutM M (but1 b)).length = 3 := (cutM_len ..).trans h1
    refine IterA1.list rfl F1 N1 (List.mem_append_left _ mR1) (by rw [List.size_toArray, sizeLine_eq, hR1.length, hc3]; decide) (AugJ _ (cutM M (but1 b))) ⟨[], rfl, (fun _ h => nomatch h), .nil, .nil⟩ ?_ ?_
    · intro j v ys2 led₁ own C oC m₃ h tk E' hj hv hJ hC hns hxx FV NV
      refine hide fun H9 hH9 => ?_
      obtain ⟨tl, rfl, ht, hJ, hnd⟩ := hJ
      obtain ⟨zs, hzs, rr, kr, cs, rfl, hmr, hcs⟩ := hR1.get (by simpa using hv)
      have hzl : zs.length = 3 := (cutM_wide zs (List.mem_of_getElem? hzs)).trans h1
      have hcl := hcs.length
      refine hH9 ?_
      clear hH9 H9
      (try clear F1); (try clear N1)
      k_dflt (refine ListComp1E (hs := by intro _; rfl) (by k_asm) (by with_unfolding_all rfl) (by decide) (by rfl) (by decide) (by rfl) ?_)
      repeat' ((fail_if_success (first | (with_reducible refine stop_li ?_) | (with_reducible refine stop_gm ?_) | (with_reducible show LCt.CompSrcT _ _ _ _ _ _ _ _ _ _ _ _ _ _ _) | (with_reducible refine stop_la ?_) | (with_reducible refine stop_ref ?_) | (with_reducible refine stop_lc ?_) | (with_reducible refine stop_alc ?_) | (with_reducible refine stop_zip ?_) | (with_reducible show IterE1 _ _ _ _ _ _ _ _ _ _ _ _ _ _ _) | (with_reducible show IterA1 _ _ _ _ _ _ _ _ _ _ _ _ _ _ _ _) | (with_reducible show CompOut _ _ _ _ _ _ _ _ _) | (with_reducible show IterF _ _ _ _ _ _ _ _ _ _ _) | (with_reducible show ForOut _ _ _ _ _ _ _ _ _))); first | (k_unfold; (try dsimp only)) | ((with_reducible refine fort_shape ?_); k_dflt (refine ForF2 (hs := by intro _; rfl) (by k_asm) (by with_unfolding_all passes_own) ?_)) | ((with_reducible refine item_shape ?_); k_dflt (refine item_at (hs := by with_unfolding_all rfl) (by k_asm) (by k_mem) (by assumption) (by first | (with_reducible exact Int.natCast_nonneg _) | (with_reducible assumption) | decide | lia) (by first | (with_reducible assumption) | decide | lia) ?_)) | ((with_reducible refine for_shape ?_); k_dflt (refine ForF (hs := by intro _; rfl) (by k_asm) (by rfl) (by rfl) (by with_unfolding_all passes_own) ?_)) | ((with_reducible show wpAny _ _ (call (Value.builtin "len") [Value.ref _]) _ _ _); k_dflt (refine kst_len (by k_asm) (by k_mem) (by first | assumption | rfl) (by lia) ?_)) | ((with_reducible refine floordiv_int ?kbe ?_ (Or.inl (PyProof.noPylong_of_log2 ?kbp))); (case kbe => first | assumption | lia); (case kbp => assumption)) | walk1 | (dsimp only; walk1) | (leave1; (try dsimp only)) | fail "no step")
      refine IterE1.list rfl FV NV (List.mem_append_right _ (List.mem_append_right _ (List.mem_append_left _ hmr))) (by rw [List.size_toArray, sizeLine_eq, hcl, hzl]; decide) (CellJ _ zs) ⟨[], rfl, (fun _ h => nomatch h), .nil⟩ ?_ ?_
      · intro j2 v2 ys3 led₂ own2 C2 oC2 m₄ h2 tk2 E2 hj2 hv2 hJ2 hC2 hns2 hxx2 FV2 NV2
        refine hide fun H9 hH9 => ?_
        obtain ⟨tl2, rfl, ht2, hJ2⟩ := hJ2
        obtain ⟨z, tz, rfl, hz9⟩ := hcs.get (by simpa using hv2)
        refine hH9 ?_
        clear hH9 H9
        (try clear FV); (try clear NV)
        repeat' ((fail_if_success (first | (with_reducible refine stop_li ?_) | (with_reducible refine stop_gm ?_) | (with_reducible show LCt.CompSrcT _ _ _ _ _ _ _ _ _ _ _ _ _ _ _) | (with_reducible refine stop_la ?_) | (with_reducible refine stop_ref ?_) | (with_reducible refine stop_lc ?_) | (with_reducible refine stop_alc ?_) | (with_reducible refine stop_zip ?_) | (with_reducible show IterE1 _ _ _ _ _ _ _ _ _ _ _ _ _ _ _) | (with_reducible show IterA1 _ _ _ _ _ _ _ _ _ _ _ _ _ _ _ _) | (with_reducible show CompOut _ _ _ _ _ _ _ _ _) | (with_reducible show IterF _ _ _ _ _ _ _ _ _ _ _) | (with_reducible show ForOut _ _ _ _ _ _ _ _ _))); first | (k_unfold; (try dsimp only)) | ((with_reducible refine fort_shape ?_); k_dflt (refine ForF2 (hs := by intro _; rfl) (by k_asm) (by with_unfolding_all passes_own) ?_)) | ((with_reducible refine item_shape ?_); k_dflt (refine item_at (hs := by with_unfolding_all rfl) (by k_asm) (by k_mem) (by assumption) (by first | (with_reducible exact Int.natCast_nonneg _) | (with_reducible assumption) | decide | lia) (by first | (with_reducible assumption) | decide | lia) ?_)) | ((with_reducible refine for_shape ?_); k_dflt (refine ForF (hs := by intro _; rfl) (by k_asm) (by rfl) (by rfl) (by with_unfolding_all passes_own) ?_)) | ((with_reducible show wpAny _ _ (call (Value.builtin "len") [Value.ref _]) _ _ _); k_dflt (refine kst_len (by k_asm) (by k_mem) (by first | assumption | rfl) (by lia) ?_)) | ((with_reducible refine floordiv_int ?kbe ?_ (Or.inl (PyProof.noPylong_of_log2 ?kbp))); (case kbe => first | assumption | lia); (case kbp => assumption)) | walk1 | (dsimp only; walk1) | (leave1; (try dsimp only)) | fail "no step")
        refine compOut_one (by k_asm) (by k_asm) (fun p hp => hp) (by ktn_lt) ⟨_ :: tl2, rfl, fun p hp q hq => ?_, ?_⟩
        · rcases List.mem_cons.mp hp with rfl | hp
          · exact (by assumption : ∀ p ∈ own2 ++ (tl2 ++ (own ++ (tl ++ _))), p.1 < _) q (List.mem_append_right _ (List.mem_append_right _ hq))
          · exact ht2 p hp q hq
        · rw [take_map_succ' hz9]
          exact Cells.snoc' (q := ((z : Int) : Rat)) (hJ2.mono fun p hp => List.mem_cons_of_mem _ hp) List.mem_cons_self
      · intro D3 h2 tk2 ys3 led₂ FV2 NV2 hD3 hlt3 hlen3 hJ2
        refine hide fun H9 hH9 => ?_
        obtain ⟨tl2, rfl, ht2, hJ2⟩ := hJ2
        refine hH9 ?_
        clear hH9 H9
        rw [show cs.toArray.size = zs.length by rw [List.size_toArray, hcl], List.take_length] at hJ2
        have hr : RowIn ((D3, LCg.lst ys3) :: tl2) (.ref D3) (zs.map fun z => ((z : Int) : Rat)) := ⟨D3, _, ys3, rfl, List.mem_cons_self, hJ2.mono fun p hp => List.mem_cons_of_mem _ hp⟩
        refine compOut_many (tl := (D3, LCg.lst ys3) :: tl2) FV2 NV2 (fun p hp q hq => ?_) ⟨((D3, LCg.lst ys3) :: tl2) ++ tl, (List.append_assoc ..).symm, fun p hp q hq => ?_, ?_, ?_⟩
        · rcases List.mem_cons.mp hp with rfl | hp
          · exact hlt3 q (List.mem_append_left _ hq)
          · exact ht2 p hp q (List.mem_append_left _ hq)
        · rcases List.mem_append.mp hp with hp | hp
          · rcases List.mem_cons.mp hp with rfl | hp
            · exact hlt3 q (List.mem_append_right _ (List.mem_append_right _ hq))
            · exact ht2 p hp q (List.mem_append_right _ (List.mem_append_right _ hq))
          · exact ht p hp q hq
        · unfold ratM
          rw [take_map_succ' hzs]
          exact (hJ.mono fun p hp => List.mem_append_right _ hp).snoc (hr.mono fun p hp => List.mem_append_left _ hp)
        · refine List.nodup_append.mpr ⟨hnd, List.nodup_cons.mpr ⟨by simp, List.nodup_nil⟩, fun x hx y hy e => ?_⟩
          rw [List.mem_singleton.mp hy] at e
          subst e
          obtain ⟨o, ho⟩ := hJ.has hx
          exact Nat.lt_irrefl _ (hlt3 _ (List.mem_append_right _ (List.mem_append_left _ ho)))
    · intro D2 h tk ys2 led₁ FV NV hD hlt hlen hJ
      refine hide fun H9 hH9 => ?_
      obtain ⟨tl, rfl, ht, hJ, hnd⟩ := hJ
      rw [show rs1.toArray.size = (cutM M (but1 b)).length by rw [List.size_toArray, hR1.length], List.take_length] at hJ
      have hoffD2 : Value.ref D2 ∉ ys2 := fun hy => by
        obtain ⟨o, ho⟩ := hJ.has hy
        exact hD _ (List.mem_append_left _ ho) rfl
      have hoffB := rows_off hJ ht
      have hW := ratM_wide hc3 (fun zs hz => (cutM_wide (M := M) (ks := but1 b) zs hz).trans h1)
      refine hH9 ?_
      clear hH9 H9
      (try clear F1); (try clear N1)
      repeat' ((fail_if_success (first | (with_reducible refine stop_li ?_) | (with_reducible refine stop_gm ?_) | (with_reducible show LCt.CompSrcT _ _ _ _ _ _ _ _ _ _ _ _ _ _ _) | (with_reducible refine stop_la ?_) | (with_reducible refine stop_ref ?_) | (with_reducible refine stop_lc ?_) | (with_reducible refine stop_alc ?_) | (with_reducible refine stop_zip ?_) | (with_reducible show IterE1 _ _ _ _ _ _ _ _ _ _ _ _ _ _ _) | (with_reducible show IterA1 _ _ _ _ _ _ _ _ _ _ _ _ _ _ _ _) | (with_reducible show CompOut _ _ _ _ _ _ _ _ _) | (with_reducible show IterF _ _ _ _ _ _ _ _ _ _ _) | (with_reducible show ForOut _ _ _ _ _ _ _ _ _))); first | (k_unfold; (try dsimp only)) | ((with_reducible refine fort_shape ?_); k_dflt (refine ForF2 (hs := by intro _; rfl) (by k_asm) (by with_unfolding_all passes_own) ?_)) | ((with_reducible refine item_shape ?_); k_dflt (refine item_at (hs := by with_unfolding_all rfl) (by k_asm) (by k_mem) (by assumption) (by first | (with_reducible exact Int.natCast_nonneg _) | (with_reducible assumption) | decide | lia) (by first | (with_reducible assumption) | decide | lia) ?_)) | ((with_reducible refine for_shape ?_); k_dflt (refine ForF (hs := by intro _; rfl) (by k_asm) (by rfl) (by rfl) (by with_unfolding_all passes_own) ?_)) | ((with_reducible show wpAny _ _ (call (Value.builtin "len") [Value.ref _]) _ _ _); k_dflt (refine kst_len (by k_asm) (by k_mem) (by first | assumption | rfl) (by lia) ?_)) | ((with_reducible refine floordiv_int ?kbe ?_ (Or.inl (PyProof.noPylong_of_log2 ?kbp))); (case kbe => first | assumption | lia); (case kbp => assumption)) | walk1 | (dsimp only; walk1) | (leave1; (try dsimp only)) | fail "no step")
      refine IterF2.zipS rfl FV NV (l1 := D2) (xs := ys2) (ys := ys) List.mem_cons_self (List.mem_cons_of_mem _ (List.mem_append_right _ (List.mem_append_right _ (List.mem_cons_of_mem _ List.mem_cons_self)))) (AppJ _ D2 D a ta ys2 (ratM (cutM M (but1 b))) ((but1 b).map fun z => if z = a then 1 else 0))
        ⟨by with_unfolding_all rfl, by with_unfolding_all rfl, by with_unfolding_all rfl, hJ.mono fun p hp => List.mem_cons_of_mem _ (List.mem_append_left _ hp), fun p hp _ => hp, fun p hp => .inl ⟨p, hp, rfl⟩⟩ ?_ ?_
      · intro i v v₂ T2 m₁ led₁ own h3 tk3 hi hv hv₂ hJ2 hsep hT2 F3 N3
        refine hide fun H9 hH9 => ?_
        obtain ⟨d1, d2, d3, hR, dk, da⟩ := hJ2
        obtain ⟨qs9, eq9, r, kr, cs, rfl, hmr, hcs⟩ := hR.rows.2 i v (by simpa using hv)
        obtain ⟨z, tz, rfl, hz9⟩ := hys.get (by simpa using hv₂)
        have hql : qs9.length = 3 := hW.2 _ (List.mem_of_getElem? ((appTo_get (Nat.le_refl i)).symm.trans eq9))
        have hcl : cs.length ≤ 100 := by rw [hcs.length, hql]; decide
        have hmr2 := List.mem_append_right own hmr
        have F4 := fr_known (fr_known (fr_known F3 d3) (x := Str.ofString "kept") (by rw [if_neg (by decide)]; exact d2)) (x := Str.ofString "rows") (by rw [if_neg (by decide), if_neg (by decide)]; exact d1)
        refine hH9 ?_
        clear hH9 H9 F3
        (try clear FV); (try clear NV)
        repeat' ((fail_if_success (first | (with_reducible refine stop_li ?_) | (with_reducible refine stop_gm ?_) | (with_reducible show LCt.CompSrcT _ _ _ _ _ _ _ _ _ _ _ _ _ _ _) | (with_reducible refine stop_la ?_) | (with_reducible refine stop_ref ?_) | (with_reducible refine stop_lc ?_) | (with_reducible refine stop_alc ?_) | (with_reducible refine stop_zip ?_) | (with_reducible show IterE1 _ _ _ _ _ _ _ _ _ _ _ _ _ _ _) | (with_reducible show IterA1 _ _ _ _ _ _ _ _ _ _ _ _ _ _ _ _) | (with_reducible show CompOut _ _ _ _ _ _ _ _ _) | (with_reducible show IterF _ _ _ _ _ _ _ _ _ _ _) | (with_reducible show ForOut _ _ _ _ _ _ _ _ _))); first | (k_unfold; (try dsimp only)) | ((with_reducible refine fort_shape ?_); k_dflt (refine ForF2 (hs := by intro _; rfl) (by k_asm) (by with_unfolding_all passes_own) ?_)) | ((with_reducible refine item_shape ?_); k_dflt (refine item_at (hs := by with_unfolding_all rfl) (by k_asm) (by k_mem) (by assumption) (by first | (with_reducible exact Int.natCast_nonneg _) | (with_reducible assumption) | decide | lia) (by first | (with_reducible assumption) | decide | lia) ?_)) | ((with_reducible refine for_shape ?_); k_dflt (refine ForF (hs := by intro _; rfl) (by k_asm) (by rfl) (by rfl) (by with_unfolding_all passes_own) ?_)) | ((with_reducible show wpAny _ _ (call (Value.builtin "len") [Value.ref _]) _ _ _); k_dflt (refine kst_len (by k_asm) (by k_mem) (by first | assumption | rfl) (by lia) ?_)) | ((with_reducible refine floordiv_int ?kbe ?_ (Or.inl (PyProof.noPylong_of_log2 ?kbp))); (case kbe => first | assumption | lia); (case kbp => assumption)) | walk1 | (dsimp only; walk1) | (leave1; (try dsimp only)) | fail "no step")
        have hor : ∀ p ∈ own, p.1 ≠ r := fun p hp e => by
          rcases hsep p hp with h | h | h
          · obtain ⟨o, ho⟩ := hJ.has (List.mem_of_getElem? hv)
            exact Nat.lt_irrefl _ (e ▸ h _ (List.mem_cons_of_mem _ (List.mem_append_left _ ho)))
          · exact hoffD2 (by rw [← h, e]; exact List.mem_of_getElem? hv)
          · exact hoffB (D, LCg.lst ys) (List.mem_append_right _ (List.mem_cons_of_mem _ List.mem_cons_self)) (by show Value.ref D ∈ ys2; rw [← h, e]; exact List.mem_of_getElem? hv)
        refine method_append (by k_asm) hmr2 ?_
        repeat' ((fail_if_success (first | (with_reducible refine stop_li ?_) | (with_reducible refine stop_gm ?_) | (with_reducible show LCt.CompSrcT _ _ _ _ _ _ _ _ _ _ _ _ _ _ _) | (with_reducible refine stop_la ?_) | (with_reducible refine stop_ref ?_) | (with_reducible refine stop_lc ?_) | (with_reducible refine stop_alc ?_) | (with_reducible refine stop_zip ?_) | (with_reducible show IterE1 _ _ _ _ _ _ _ _ _ _ _ _ _ _ _) | (with_reducible show IterA1 _ _ _ _ _ _ _ _ _ _ _ _ _ _ _ _) | (with_reducible show CompOut _ _ _ _ _ _ _ _ _) | (with_reducible show IterF _ _ _ _ _ _ _ _ _ _ _) | (with_reducible show ForOut _ _ _ _ _ _ _ _ _))); first | (k_unfold; (try dsimp only)) | ((with_reducible refine fort_shape ?_); k_dflt (refine ForF2 (hs := by intro _; rfl) (by k_asm) (by with_unfolding_all passes_own) ?_)) | ((with_reducible refine item_shape ?_); k_dflt (refine item_at (hs := by with_unfolding_all rfl) (by k_asm) (by k_mem) (by assumption) (by first | (with_reducible exact Int.natCast_nonneg _) | (with_reducible assumption) | decide | lia) (by first | (with_reducible assumption) | decide | lia) ?_)) | ((with_reducible refine for_shape ?_); k_dflt (refine ForF (hs := by intro _; rfl) (by k_asm) (by rfl) (by rfl) (by with_unfolding_all passes_own) ?_)) | ((with_reducible show wpAny _ _ (call (Value.builtin "len") [Value.ref _]) _ _ _); k_dflt (refine kst_len (by k_asm) (by k_mem) (by first | assumption | rfl) (by lia) ?_)) | ((with_reducible refine floordiv_int ?kbe ?_ (Or.inl (PyProof.noPylong_of_log2 ?kbp))); (case kbe => first | assumption | lia); (case kbp => assumption)) | walk1 | (dsimp only; walk1) | (leave1; (try dsimp only)) | fail "no step")
        · rename_i hza Xt hXt Ft Nt lt
          have hu : ((but1 b).map fun z => if z = a then (1 : Rat) else 0).getD i 0 = 1 := by rw [List.getD_eq_getElem?_getD, List.getElem?_map, hz9]; exact if_pos hza
          refine append_row Ft Nt (List.mem_cons_of_mem _ hmr2) hcl ?_
          intro c9 h9 F9 N9
          repeat' ((fail_if_success (first | (with_reducible refine stop_li ?_) | (with_reducible refine stop_gm ?_) | (with_reducible show LCt.CompSrcT _ _ _ _ _ _ _ _ _ _ _ _ _ _ _) | (with_reducible refine stop_la ?_) | (with_reducible refine stop_ref ?_) | (with_reducible refine stop_lc ?_) | (with_reducible refine stop_alc ?_) | (with_reducible refine stop_zip ?_) | (with_reducible show IterE1 _ _ _ _ _ _ _ _ _ _ _ _ _ _ _) | (with_reducible show IterA1 _ _ _ _ _ _ _ _ _ _ _ _ _ _ _ _) | (with_reducible show CompOut _ _ _ _ _ _ _ _ _) | (with_reducible show IterF _ _ _ _ _ _ _ _ _ _ _) | (with_reducible show ForOut _ _ _ _ _ _ _ _ _))); first | (k_unfold; (try dsimp only)) | ((with_reducible refine fort_shape ?_); k_dflt (refine ForF2 (hs := by intro _; rfl) (by k_asm) (by with_unfolding_all passes_own) ?_)) | ((with_reducible refine item_shape ?_); k_dflt (refine item_at (hs := by with_unfolding_all rfl) (by k_asm) (by k_mem) (by assumption) (by first | (with_reducible exact Int.natCast_nonneg _) | (with_reducible assumption) | decide | lia) (by first | (with_reducible assumption) | decide | lia) ?_)) | ((with_reducible refine for_shape ?_); k_dflt (refine ForF (hs := by intro _; rfl) (by k_asm) (by rfl) (by rfl) (by with_unfolding_all passes_own) ?_)) | ((with_reducible show wpAny _ _ (call (Value.builtin "len") [Value.ref _]) _ _ _); k_dflt (refine kst_len (by k_asm) (by k_mem) (by first | assumption | rfl) (by lia) ?_)) | ((with_reducible refine floordiv_int ?kbe ?_ (Or.inl (PyProof.noPylong_of_log2 ?kbp))); (case kbe => first | assumption | lia); (case kbp => assumption)) | walk1 | (dsimp only; walk1) | (leave1; (try dsimp only)) | fail "no step")
          exact app_close (q := 1) hR dk da hnd hv eq9 hcs N3 hmr hor lt hu (by k_asm) (by k_asm) (by with_unfolding_all rfl) (by with_unfolding_all rfl) (by with_unfolding_all rfl)
        · rename_i hza Xt hXt Ft Nt lt
          have hu : ((but1 b).map fun z => if z = a then (1 : Rat) else 0).getD i 0 = 0 := by rw [List.getD_eq_getElem?_getD, List.getElem?_map, hz9]; exact if_neg hza
          refine append_row Ft Nt (List.mem_cons_of_mem _ hmr2) hcl ?_
          intro c9 h9 F9 N9
          repeat' ((fail_if_success (first | (with_reducible refine stop_li ?_) | (with_reducible refine stop_gm ?_) | (with_reducible show LCt.CompSrcT _ _ _ _ _ _ _ _ _ _ _ _ _ _ _) | (with_reducible refine stop_la ?_) | (with_reducible refine stop_ref ?_) | (with_reducible refine stop_lc ?_) | (with_reducible refine stop_alc ?_) | (with_reducible refine stop_zip ?_) | (with_reducible show IterE1 _ _ _ _ _ _ _ _ _ _ _ _ _ _ _) | (with_reducible show IterA1 _ _ _ _ _ _ _ _ _ _ _ _ _ _ _ _) | (with_reducible show CompOut _ _ _ _ _ _ _ _ _) | (with_reducible show IterF _ _ _ _ _ _ _ _ _ _ _) | (with_reducible show ForOut _ _ _ _ _ _ _ _ _))); first | (k_unfold; (try dsimp only)) | ((with_reducible refine fort_shape ?_); k_dflt (refine ForF2 (hs := by intro _; rfl) (by k_asm) (by with_unfolding_all passes_own) ?_)) | ((with_reducible refine item_shape ?_); k_dflt (refine item_at (hs := by with_unfolding_all rfl) (by k_asm) (by k_mem) (by assumption) (by first | (with_reducible exact Int.natCast_nonneg _) | (with_reducible assumption) | decide | lia) (by first | (with_reducible assumption) | decide | lia) ?_)) | ((with_reducible refine for_shape ?_); k_dflt (refine ForF (hs := by intro _; rfl) (by k_asm) (by rfl) (by rfl) (by with_unfolding_all passes_own) ?_)) | ((with_reducible show wpAny _ _ (call (Value.builtin "len") [Value.ref _]) _ _ _); k_dflt (refine kst_len (by k_asm) (by k_mem) (by first | assumption | rfl) (by lia) ?_)) | ((with_reducible refine floordiv_int ?kbe ?_ (Or.inl (PyProof.noPylong_of_log2 ?kbp))); (case kbe => first | assumption | lia); (case kbp => assumption)) | walk1 | (dsimp only; walk1) | (leave1; (try dsimp only)) | fail "no step")
          exact app_close (q := 0) hR dk da hnd hv eq9 hcs N3 hmr hor lt hu (by k_asm) (by k_asm) (by with_unfolding_all rfl) (by with_unfolding_all rfl) (by with_unfolding_all rfl)
      · intro h3 tk3 m₁ led₁ hJ2 F3 N3
        refine hide fun H9 hH9 => ?_
        obtain ⟨d1, d2, d3, hR, dk, da⟩ := hJ2
        have hmin : min ys2.length ys.length = 3 := by rw [hJ.rows.1, hys.length, hW.1, h1]; rfl
        rw [hmin, aug_eq h1] at hR
        have F4 := fr_known (fr_known (fr_known F3 d3) (x := Str.ofString "kept") (by rw [if_neg (by decide)]; exact d2)) (x := Str.ofString "rows") (by rw [if_neg (by decide), if_neg (by decide)]; exact d1)
        have mD2 := dk _ List.mem_cons_self hoffD2
        have mD := dk (D, LCg.lst ys) (List.mem_cons_of_mem _ (List.mem_append_right _ (List.mem_append_right _ (List.mem_cons_of_mem _ List.mem_cons_self)))) (hoffB _ (List.mem_append_right _ (List.mem_cons_of_mem _ List.mem_cons_self)))
        refine hH9 ?_
        clear hH9 H9 F3
        (try clear FV); (try clear NV)
        repeat' ((fail_if_success (first | (with_reducible refine stop_li ?_) | (with_reducible refine stop_gm ?_) | (with_reducible show LCt.CompSrcT _ _ _ _ _ _ _ _ _ _ _ _ _ _ _) | (with_reducible refine stop_la ?_) | (with_reducible refine stop_ref ?_) | (with_reducible refine stop_lc ?_) | (with_reducible refine stop_alc ?_) | (with_reducible refine stop_zip ?_) | (with_reducible show IterE1 _ _ _ _ _ _ _ _ _ _ _ _ _ _ _) | (with_reducible show IterA1 _ _ _ _ _ _ _ _ _ _ _ _ _ _ _ _) | (with_reducible show CompOut _ _ _ _ _ _ _ _ _) | (with_reducible show IterF _ _ _ _ _ _ _ _ _ _ _) | (with_reducible show ForOut _ _ _ _ _ _ _ _ _))); first | (k_unfold; (try dsimp only)) | ((with_reducible refine fort_shape ?_); k_dflt (refine ForF2 (hs := by intro _; rfl) (by k_asm) (by with_unfolding_all passes_own) ?_)) | ((with_reducible refine item_shape ?_); k_dflt (refine item_at (hs := by with_unfolding_all rfl) (by k_asm) (by k_mem) (by assumption) (by first | (with_reducible exact Int.natCast_nonneg _) | (with_reducible assumption) | decide | lia) (by first | (with_reducible assumption) | decide | lia) ?_)) | ((with_reducible refine for_shape ?_); k_dflt (refine ForF (hs := by intro _; rfl) (by k_asm) (by rfl) (by rfl) (by with_unfolding_all passes_own) ?_)) | ((with_reducible show wpAny _ _ (call (Value.builtin "len") [Value.ref _]) _ _ _); k_dflt (refine kst_len (by k_asm) (by k_mem) (by first | assumption | rfl) (by lia) ?_)) | ((with_reducible refine floordiv_int ?kbe ?_ (Or.inl (PyProof.noPylong_of_log2 ?kbp))); (case kbe => first | assumption | lia); (case kbp => assumption)) | walk1 | (dsimp only; walk1) | (leave1; (try dsimp only)) | fail "no step")
        refine Tell.goV (N := by k_asm) (B := by k_asm) (F := by k_asm) (X := by k_asm) (T := by k_asm) (hk := by first | exact rfl | assumption) (C := t_solved w mean mg mb _ (augM M (but1 b) a) 3 4 10 D2 _ ys2 mD2 hR.rows (augM_wide h1) (by decide) (augM_bits (by decide) hz) (by decide) (by decide) (by decide)) (ret := ?_) (hd := by first | decide | exact room1 (by assumption) (by decide) | ktr_room) (hu := by first | decide | exact units1 (by assumption) (by decide) | ktr_units)
        intro tlS x R' kR' T' rs' tS uS h9 tk9 htS mx mR' hRs _ F9 N9
        refine hide fun H9 hH9 => ?_
        obtain ⟨_, gv, rr, kr, cs9, rfl, hmr, hcs⟩ := hRs.at hs
        obtain ⟨y, ty, uy, gy, my⟩ := hcs.at hq
        have gv' : rs'[((k : Nat) : Int).toNat]? = some (.ref rr) := by rw [Int.toNat_natCast]; exact gv
        have gy' : cs9[(3 : Int).toNat]? = some (.ref y) := gy
        have mD9 := List.mem_append_right tlS mD
        have hyD : y ≠ D := tuple_ne N9 mD9 _ my rfl
        obtain ⟨led', hE, hs1, hs2⟩ := solved_ext (led := led) (D := D) N9 dk da (fun p hp => by
          have lZ := lZ1
          rcases List.mem_cons.mp hp with rfl | hp
          · exact .inr (.inl fun q hq => hlt q (List.mem_append_right _ (List.mem_cons_of_mem _ (List.mem_cons_of_mem _ (List.mem_cons_of_mem _ hq)))))
          · rcases List.mem_append.mp hp with hp | hp
            · exact .inr (.inl fun q hq => ht p hp q (List.mem_append_right _ (List.mem_cons_of_mem _ (List.mem_cons_of_mem _ (List.mem_cons_of_mem _ hq)))))
            · rcases List.mem_append.mp hp with hp | hp
              · exact .inr (.inl fun q hq => ht1 p hp q (List.mem_cons_of_mem _ (List.mem_cons_of_mem _ (List.mem_cons_of_mem _ hq))))
              · rcases List.mem_cons.mp hp with rfl | hp
                · exact .inr (.inl fun q hq => lt_of_all lZ.2.2 q hq)
                · rcases List.mem_cons.mp hp with rfl | hp
                  · exact .inr (.inr rfl)
                  · rcases List.mem_cons.mp hp with rfl | hp
                    · exact .inr (.inl fun q hq => Nat.lt_succ_of_lt (l1 q hq))
                    · exact .inl hp) (fun p hp => List.mem_cons_of_mem _ (List.mem_append_right _ (List.mem_append_right _ (List.mem_cons_of_mem _ (List.mem_cons_of_mem _ (List.mem_cons_of_mem _ hp)))))) (fun p hp => hoffB p (List.mem_append_right _ (List.mem_cons_of_mem _ (List.mem_cons_of_mem _ (List.mem_cons_of_mem _ hp))))) (fun p hp => off1_all off.2 p hp) rfl htS my hyD
        refine hH9 ?_
        clear hH9 H9 N3 F4
        (try dsimp only)
        repeat' ((fail_if_success (first | (with_reducible refine stop_li ?_) | (with_reducible refine stop_gm ?_) | (with_reducible show LCt.CompSrcT _ _ _ _ _ _ _ _ _ _ _ _ _ _ _) | (with_reducible refine stop_la ?_) | (with_reducible refine stop_ref ?_) | (with_reducible refine stop_lc ?_) | (with_reducible refine stop_alc ?_) | (with_reducible refine stop_zip ?_) | (with_reducible show IterE1 _ _ _ _ _ _ _ _ _ _ _ _ _ _ _) | (with_reducible show IterA1 _ _ _ _ _ _ _ _ _ _ _ _ _ _ _ _) | (with_reducible show CompOut _ _ _ _ _ _ _ _ _) | (with_reducible show IterF _ _ _ _ _ _ _ _ _ _ _) | (with_reducible show ForOut _ _ _ _ _ _ _ _ _))); first | (k_unfold; (try dsimp only)) | ((with_reducible refine fort_shape ?_); k_dflt (refine ForF2 (hs := by intro _; rfl) (by k_asm) (by with_unfolding_all passes_own) ?_)) | ((with_reducible refine item_shape ?_); k_dflt (refine item_at (hs := by with_unfolding_all rfl) (by k_asm) (by k_mem) (by assumption) (by first | (with_reducible exact Int.natCast_nonneg _) | (with_reducible assumption) | decide | lia) (by first | (with_reducible assumption) | decide | lia) ?_)) | ((with_reducible refine for_shape ?_); k_dflt (refine ForF (hs := by intro _; rfl) (by k_asm) (by rfl) (by rfl) (by with_unfolding_all passes_own) ?_)) | ((with_reducible show wpAny _ _ (call (Value.builtin "len") [Value.ref _]) _ _ _); k_dflt (refine kst_len (by k_asm) (by k_mem) (by first | assumption | rfl) (by lia) ?_)) | ((with_reducible refine floordiv_int ?kbe ?_ (Or.inl (PyProof.noPylong_of_log2 ?kbp))); (case kbe => first | assumption | lia); (case kbp => assumption)) | walk1 | (dsimp only; walk1) | (leave1; (try dsimp only)) | fail "no step")
        refine method_index (by k_asm) mD9 ?_
        repeat' ((fail_if_success (first | (with_reducible refine stop_li ?_) | (with_reducible refine stop_gm ?_) | (with_reducible show LCt.CompSrcT _ _ _ _ _ _ _ _ _ _ _ _ _ _ _) | (with_reducible refine stop_la ?_) | (with_reducible refine stop_ref ?_) | (with_reducible refine stop_lc ?_) | (with_reducible refine stop_alc ?_) | (with_reducible refine stop_zip ?_) | (with_reducible show IterE1 _ _ _ _ _ _ _ _ _ _ _ _ _ _ _) | (with_reducible show IterA1 _ _ _ _ _ _ _ _ _ _ _ _ _ _ _ _) | (with_reducible show CompOut _ _ _ _ _ _ _ _ _) | (with_reducible show IterF _ _ _ _ _ _ _ _ _ _ _) | (with_reducible show ForOut _ _ _ _ _ _ _ _ _))); first | (k_unfold; (try dsimp only)) | ((with_reducible refine fort_shape ?_); k_dflt (refine ForF2 (hs := by intro _; rfl) (by k_asm) (by with_unfolding_all passes_own) ?_)) | ((with_reducible refine item_shape ?_); k_dflt (refine item_at (hs := by with_unfolding_all rfl) (by k_asm) (by k_mem) (by assumption) (by first | (with_reducible exact Int.natCast_nonneg _) | (with_reducible assumption) | decide | lia) (by first | (with_reducible assumption) | decide | lia) ?_)) | ((with_reducible refine for_shape ?_); k_dflt (refine ForF (hs := by intro _; rfl) (by k_asm) (by rfl) (by rfl) (by with_unfolding_all passes_own) ?_)) | ((with_reducible show wpAny _ _ (call (Value.builtin "len") [Value.ref _]) _ _ _); k_dflt (refine kst_len (by k_asm) (by k_mem) (by first | assumption | rfl) (by lia) ?_)) | ((with_reducible refine floordiv_int ?kbe ?_ (Or.inl (PyProof.noPylong_of_log2 ?kbp))); (case kbe => first | assumption | lia); (case kbp => assumption)) | walk1 | (dsimp only; walk1) | (leave1; (try dsimp only)) | fail "no step")
        refine index_at (by k_asm) mD9 hys glay gk gkm ?_
        intro t7 tk7
        (try dsimp only)
        have hk3 : ((k : Nat) : Int) < 2 ^ 63 := by
          have := (List.getElem?_eq_some_iff.mp gk).1
          lia
        repeat' ((fail_if_success (first | (with_reducible refine stop_li ?_) | (with_reducible refine stop_gm ?_) | (with_reducible show LCt.CompSrcT _ _ _ _ _ _ _ _ _ _ _ _ _ _ _) | (with_reducible refine stop_la ?_) | (with_reducible refine stop_ref ?_) | (with_reducible refine stop_lc ?_) | (with_reducible refine stop_alc ?_) | (with_reducible refine stop_zip ?_) | (with_reducible show IterE1 _ _ _ _ _ _ _ _ _ _ _ _ _ _ _) | (with_reducible show IterA1 _ _ _ _ _ _ _ _ _ _ _ _ _ _ _ _) | (with_reducible show CompOut _ _ _ _ _ _ _ _ _) | (with_reducible show IterF _ _ _ _ _ _ _ _ _ _ _) | (with_reducible show ForOut _ _ _ _ _ _ _ _ _))); first | (k_unfold; (try dsimp only)) | ((with_reducible refine fort_shape ?_); k_dflt (refine ForF2 (hs := by intro _; rfl) (by k_asm) (by with_unfolding_all passes_own) ?_)) | ((with_reducible refine item_shape ?_); k_dflt (refine item_at (hs := by with_unfolding_all rfl) (by k_asm) (by k_mem) (by assumption) (by first | (with_reducible exact Int.natCast_nonneg _) | (with_reducible assumption) | decide | lia) (by first | (with_reducible assumption) | decide | lia) ?_)) | ((with_reducible refine for_shape ?_); k_dflt (refine ForF (hs := by intro _; rfl) (by k_asm) (by rfl) (by rfl) (by with_unfolding_all passes_own) ?_)) | ((with_reducible show wpAny _ _ (call (Value.builtin "len") [Value.ref _]) _ _ _); k_dflt (refine kst_len (by k_asm) (by k_mem) (by first | assumption | rfl) (by lia) ?_)) | ((with_reducible refine floordiv_int ?kbe ?_ (Or.inl (PyProof.noPylong_of_log2 ?kbp))); (case kbe => first | assumption | lia); (case kbp => assumption)) | walk1 | (dsimp only; walk1) | (leave1; (try dsimp only)) | fail "no step")
        exact hret _ led' _ _ (by k_asm) (News.drop (by k_asm) hs1) ⟨hE, y, _, _, rfl, hs2⟩
end
theorem Tell.goDraw {w : World} {mean : ExcName → Option Value} {mg mb : Str → Option Value} {fa : Addr} {need : Nat} {led : List (Addr × Obj)} {vs : List Value} {dp un : Nat} {gd : Option (List Code)} {cn : Str} {cs : Scope} {a : Addr} {ccd : Value} {cl : List (Str × Addr)} {outer : List Env} {A₀ : Around} {base h₀ : Heap} {L : Addr} {m : Str → Option Value} {s : Shared} {Q E : Value → Shared → Prop} {P Y : Addr} {i : Nat} {below : Int} {rest : List (Addr × Obj)} (N : News h₀ L s.heap led) (B : Below A₀ base outer h₀) (F : Fr h₀ L s.heap m) (X : (Mine.hd.heap_39 w.params).In h₀) (T : TopP mean mg mb h₀) (hk : cs.kind = .function) (C : Tell w mean mg mb fa need led vs (fun led' r => ∃ v t t' k', r = .int v t ∧ 0 ≤ v ∧ v < below ∧ led' = (P, { cls := .type "list", data := .seq (List.toArray [.ref Y, .int ((i + 1 : Nat) : Int) t']) k' }) :: rest))
    (ret : ∀ (d : Nat) t t' k' h' tk', (d : Int) < below → Fr h₀ L h' m → News h₀ L h' ((P, { cls := .type "list", data := .seq (List.toArray [.ref Y, .int ((i + 1 : Nat) : Int) t']) k' }) :: rest) → Q (.int (d : Nat) t) { s with heap := h', toks := tk' }) (hd : dp + need < recursionLimit) (hu : un + 8 * need < cLine) : wpAny (model PR w) (ktrTop dp un gd cn cs L a ccd cl outer) (call (.ref fa) vs) Q E s := Tell.use N B F X T hk C hd hu fun r led' h' tk' F' N' P => by
  obtain ⟨v, t, t', k', rfl, h0, h1, rfl⟩ := P
  obtain ⟨d, rfl⟩ := Int.eq_ofNat_of_zero_le h0
  exact ret d t t' k' h' tk' h1 F' N'
theorem stop_ife {M : Model} {A : Around} {E : Value → Shared → Prop} {s : Shared} {Q : Value → Shared → Prop} {a b c p env} (h : False) : wpAny M A (eval (Expr.IfExp a b c p) env) Q E s := h.elim
theorem stop_ct {M : Model} {A : Around} {E : Value → Shared → Prop} {s : Shared} {Q : Value → Shared → Prop} {op x y} (h : False) : wpAny M A (compareOp op (Value.ref x) (Value.ref y)) Q E s := h.elim
theorem hideQP {prog : Program} {w : World} {B : Around} {env : Env} {α : Type} {t : Sem α} {Q : α → Shared → Prop} {E : Value → Shared → Prop} {s : Shared}
    (h : ∀ Q' E', (∀ f s, Q f s → Q' f s) → PassesOwn (model prog w) (B.deeper env) env E' → wpAny (model prog w) (B.deeper env) t Q' E' s) (hp : PassesOwn (model prog w) (B.deeper env) env E) : wpAny (model prog w) (B.deeper env) t Q E s := h Q E (fun _ _ h => h) hp
section
theorem fin1 : PySem.Challenge.rw_xm0049_02.Holds := by
  refine Mine.hd ?_
  k_go0
  refine hideQP (fun Q0 E0 hQ0 hP0 => ?_) (by with_unfolding_all passes_own)
  repeat' ((fail_if_success (first | (with_reducible refine stop_gm ?_) | (with_reducible refine stop_ife ?_) | (with_reducible refine stop_ct ?_) | (with_reducible show wpAny _ _ (setItem (Value.ref _) (Value.ref _) _) _ _ _) | (with_reducible show wpAny _ _ (subscriptTail _ (Expr.Tuple _ _ _) (Value.ref _) (Value.ref _)) _ _ _) | (with_reducible refine stop_ref ?_) | (with_reducible refine stop_lc ?_) | (with_reducible refine stop_alc ?_) | (with_reducible refine stop_zip ?_) | (with_reducible show IterE1 _ _ _ _ _ _ _ _ _ _ _ _ _ _ _) | (with_reducible show IterA1 _ _ _ _ _ _ _ _ _ _ _ _ _ _ _ _) | (with_reducible show CompOut _ _ _ _ _ _ _ _ _) | (with_reducible show IterF _ _ _ _ _ _ _ _ _ _ _) | (with_reducible show ForOut _ _ _ _ _ _ _ _ _))); first | (k_unfold; (try dsimp only)) | ((with_reducible refine for_shape ?_); k_dflt (refine ForF (hs := by intro _; rfl) (by k_asm) (by rfl) (by rfl) (by assumption) ?_)) | ((with_reducible refine fort_shape ?_); k_dflt (refine ForF2 (hs := by intro _; rfl) (by k_asm) (by assumption) ?_)) | ((with_reducible refine item_shape ?_); k_dflt (refine item_at (hs := by with_unfolding_all rfl) (by k_asm) (by k_mem) (by assumption) (by first | (with_reducible exact Int.natCast_nonneg _) | (with_reducible assumption) | decide | lia) (by first | (with_reducible assumption) | decide | lia) ?_)) | ((with_reducible refine for_shape ?_); k_dflt (refine ForF (hs := by intro _; rfl) (by k_asm) (by rfl) (by rfl) (by with_unfolding_all passes_own) ?_)) | ((with_reducible show wpAny _ _ (call (Value.builtin "len") [Value.ref _]) _ _ _); k_dflt (refine kst_len (by k_asm) (by k_mem) (by first | assumption | rfl) (by lia) ?_)) | ((with_reducible refine floordiv_int ?kbe ?_ (Or.inl (PyProof.noPylong_of_log2 ?kbp))); (case kbe => first | assumption | lia); (case kbp => assumption)) | walk1 | (dsimp only; walk1) | (leave1; (try dsimp only)) | fail "no step")
  rename_i Y ws hA hIs hCl hLl _ P hB lPY d hC od lo _ _ hdi _ ld Tz hD lT hE hF hG FE NE hH tkH tH uH vH hr F1 N1 k1
  clear FE NE k1
  refine IterF.hideQ fun Q9 hQ9 => ?_
  refine IterF.range rfl F1 (led := (d, od) :: (P, { cls := .type "list", data := .seq (List.toArray [.ref Y, .int ((0 : Nat) : Int) _]) 0 }) :: ([] ++ [(Y, W.listOf ws.toArray 0)])) (News.drop N1 fun p hp => List.mem_cons_of_mem _ hp) hr (by decide) (show _ = ((4 : Nat) : Int) by decide)
    (fun i => FillJ PR _ P Y d [(Y, W.listOf ws.toArray 0)] (fun _ => True) (off6 i))
    ⟨[], od, [], _, _, rfl, (fun _ h => nomatch h), (fun _ h => nomatch h), lines_nil lo hdi, FillOk.nil, by with_unfolding_all rfl, by with_unfolding_all rfl, trivial⟩ ?_ ?_
  · intro i ti m₁ led₁ own h2 tk2 hi hJ sep hown F2 N2
    refine hide fun H9 hH9 => ?_
    obtain ⟨tl, od1, ms, t1, kk1, rfl, ht, htd, hl, hok, e1, e2, -⟩ := hJ
    simp only [Int.zero_add] at F2
    have F3 := fr_known (fr_known F2 (x := Str.ofString "bag") (by rw [if_neg (by decide)]; exact e1)) (x := Str.ofString "lines") (by rw [if_neg (by decide), if_neg (by decide)]; exact e2)
    have hdP : @LT.lt Nat _ P d := ld.1
    refine hH9 ?_
    clear hH9 H9 F2 F1 N1 hr
    repeat' ((fail_if_success (first | (with_reducible refine stop_gm ?_) | (with_reducible refine stop_ife ?_) | (with_reducible refine stop_ct ?_) | (with_reducible show wpAny _ _ (setItem (Value.ref _) (Value.ref _) _) _ _ _) | (with_reducible show wpAny _ _ (subscriptTail _ (Expr.Tuple _ _ _) (Value.ref _) (Value.ref _)) _ _ _) | (with_reducible refine stop_ref ?_) | (with_reducible refine stop_lc ?_) | (with_reducible refine stop_alc ?_) | (with_reducible refine stop_zip ?_) | (with_reducible show IterE1 _ _ _ _ _ _ _ _ _ _ _ _ _ _ _) | (with_reducible show IterA1 _ _ _ _ _ _ _ _ _ _ _ _ _ _ _ _) | (with_reducible show CompOut _ _ _ _ _ _ _ _ _) | (with_reducible show IterF _ _ _ _ _ _ _ _ _ _ _) | (with_reducible show ForOut _ _ _ _ _ _ _ _ _))); first | (k_unfold; (try dsimp only)) | ((with_reducible refine for_shape ?_); k_dflt (refine ForF (hs := by intro _; rfl) (by k_asm) (by rfl) (by rfl) (by assumption) ?_)) | ((with_reducible refine fort_shape ?_); k_dflt (refine ForF2 (hs := by intro _; rfl) (by k_asm) (by assumption) ?_)) | ((with_reducible refine item_shape ?_); k_dflt (refine item_at (hs := by with_unfolding_all rfl) (by k_asm) (by k_mem) (by assumption) (by first | (with_reducible exact Int.natCast_nonneg _) | (with_reducible assumption) | decide | lia) (by first | (with_reducible assumption) | decide | lia) ?_)) | ((with_reducible refine for_shape ?_); k_dflt (refine ForF (hs := by intro _; rfl) (by k_asm) (by rfl) (by rfl) (by with_unfolding_all passes_own) ?_)) | ((with_reducible show wpAny _ _ (call (Value.builtin "len") [Value.ref _]) _ _ _); k_dflt (refine kst_len (by k_asm) (by k_mem) (by first | assumption | rfl) (by lia) ?_)) | ((with_reducible refine floordiv_int ?kbe ?_ (Or.inl (PyProof.noPylong_of_log2 ?kbp))); (case kbe => first | assumption | lia); (case kbp => assumption)) | walk1 | (dsimp only; walk1) | (leave1; (try dsimp only)) | fail "no step")
    rename_i h3 tk3 t2 u2 v2 hr2 F4 N4 k4
    clear k4
    obtain ⟨hsm2, hn2⟩ := small_of (a := (i : Int) + 1) (b := 4) (n := 3 - i) (by lia) (by decide) (by lia)
    refine IterF.hideQ fun Q8 hQ8 => ?_
    refine IterF.range rfl F4 (led := (d, od1) :: (P, { cls := .type "list", data := .seq (List.toArray [.ref Y, .int (off6 i : Nat) t1]) kk1 }) :: (tl ++ (own ++ [(Y, W.listOf ws.toArray 0)]))) (News.drop N4 fun p hp => ?_) hr2 hsm2 hn2
      (fun j => FillJ PR _ P Y d (tl ++ (own ++ [(Y, W.listOf ws.toArray 0)])) (fun m => m (Str.ofString "one") = some (.int i ti)) (off6 i + j)) (fill_inner ht hl hok (by with_unfolding_all rfl) (by with_unfolding_all rfl) (by with_unfolding_all rfl)) ?_ ?_
    · simp only [List.mem_cons, List.mem_append] at hp ⊢
      rcases hp with h | h | h | h | h
      · exact .inr (.inl h)
      · exact .inr (.inr (.inl h))
      · exact .inr (.inr (.inr (.inl h)))
      · exact .inl h
      · exact .inr (.inr (.inr (.inr h)))
    · intro j tj m₂ led₂ own2 h4 tk4 hj hJ2 sep2 hown2 F5 N5
      refine hide fun H9 hH9 => ?_
      obtain ⟨tl2, od2, ms2, t3, kk3, rfl, ht2, htd2, hl2, hok2, d1, d2, d3⟩ := hJ2
      have F6 := fr_known (fr_known (fr_known F5 (x := Str.ofString "bag") (by rw [if_neg (by decide)]; exact d1)) (x := Str.ofString "lines") (by rw [if_neg (by decide), if_neg (by decide)]; exact d2)) (x := Str.ofString "one") (by rw [if_neg (by decide), if_neg (by decide), if_neg (by decide)]; exact d3)
      have hp := off6_pair i hi j hj
      have hoff : ∀ q ∈ own2 ++ (tl2 ++ (tl ++ (own ++ [(Y, W.listOf ws.toArray 0)]))), q.1 ≠ P ∧ q.1 ≠ d := fun q hq => by
        rcases List.mem_append.mp hq with hq | hq
        · exact ⟨fun e => sep2 _ (List.mem_cons_of_mem _ List.mem_cons_self) q hq e.symm, fun e => sep2 _ List.mem_cons_self q hq e.symm⟩
        · rcases List.mem_append.mp hq with hq | hq
          · exact ⟨Ne.symm (Nat.ne_of_lt (Nat.lt_trans hdP (htd2 q hq))), Ne.symm (Nat.ne_of_lt (htd2 q hq))⟩
          · rcases List.mem_append.mp hq with hq | hq
            · exact ⟨Ne.symm (Nat.ne_of_lt (Nat.lt_trans hdP (htd q hq))), Ne.symm (Nat.ne_of_lt (htd q hq))⟩
            · rcases List.mem_append.mp hq with hq | hq
              · exact ⟨fun e => sep _ (List.mem_cons_of_mem _ List.mem_cons_self) q hq e.symm, fun e => sep _ List.mem_cons_self q hq e.symm⟩
              · rw [List.mem_singleton.mp hq]
                exact ⟨Nat.ne_of_lt lPY, Nat.ne_of_lt ld.2⟩
      refine hH9 ?_
      clear hH9 H9 F5 F4 N4 hr2
      repeat' ((fail_if_success (first | (with_reducible refine stop_gm ?_) | (with_reducible refine stop_ife ?_) | (with_reducible refine stop_ct ?_) | (with_reducible show wpAny _ _ (setItem (Value.ref _) (Value.ref _) _) _ _ _) | (with_reducible show wpAny _ _ (subscriptTail _ (Expr.Tuple _ _ _) (Value.ref _) (Value.ref _)) _ _ _) | (with_reducible refine stop_ref ?_) | (with_reducible refine stop_lc ?_) | (with_reducible refine stop_alc ?_) | (with_reducible refine stop_zip ?_) | (with_reducible show IterE1 _ _ _ _ _ _ _ _ _ _ _ _ _ _ _) | (with_reducible show IterA1 _ _ _ _ _ _ _ _ _ _ _ _ _ _ _ _) | (with_reducible show CompOut _ _ _ _ _ _ _ _ _) | (with_reducible show IterF _ _ _ _ _ _ _ _ _ _ _) | (with_reducible show ForOut _ _ _ _ _ _ _ _ _))); first | (k_unfold; (try dsimp only)) | ((with_reducible refine for_shape ?_); k_dflt (refine ForF (hs := by intro _; rfl) (by k_asm) (by rfl) (by rfl) (by assumption) ?_)) | ((with_reducible refine fort_shape ?_); k_dflt (refine ForF2 (hs := by intro _; rfl) (by k_asm) (by assumption) ?_)) | ((with_reducible refine item_shape ?_); k_dflt (refine item_at (hs := by with_unfolding_all rfl) (by k_asm) (by k_mem) (by assumption) (by first | (with_reducible exact Int.natCast_nonneg _) | (with_reducible assumption) | decide | lia) (by first | (with_reducible assumption) | decide | lia) ?_)) | ((with_reducible refine for_shape ?_); k_dflt (refine ForF (hs := by intro _; rfl) (by k_asm) (by rfl) (by rfl) (by with_unfolding_all passes_own) ?_)) | ((with_reducible show wpAny _ _ (call (Value.builtin "len") [Value.ref _]) _ _ _); k_dflt (refine kst_len (by k_asm) (by k_mem) (by first | assumption | rfl) (by lia) ?_)) | ((with_reducible refine floordiv_int ?kbe ?_ (Or.inl (PyProof.noPylong_of_log2 ?kbp))); (case kbe => first | assumption | lia); (case kbp => assumption)) | walk1 | (dsimp only; walk1) | (leave1; (try dsimp only)) | fail "no step")
      refine cut_int (fun z => (z = 0 ∨ z = 1) ∧ (j = 0 → z = 1)) ?_ ?_
      · (first | walk1 | (dsimp only; walk1))
        repeat' ((fail_if_success (first | (with_reducible refine stop_gm ?_) | (with_reducible refine stop_ife ?_) | (with_reducible refine stop_ct ?_) | (with_reducible show wpAny _ _ (setItem (Value.ref _) (Value.ref _) _) _ _ _) | (with_reducible show wpAny _ _ (subscriptTail _ (Expr.Tuple _ _ _) (Value.ref _) (Value.ref _)) _ _ _) | (with_reducible refine stop_ref ?_) | (with_reducible refine stop_lc ?_) | (with_reducible refine stop_alc ?_) | (with_reducible refine stop_zip ?_) | (with_reducible show IterE1 _ _ _ _ _ _ _ _ _ _ _ _ _ _ _) | (with_reducible show IterA1 _ _ _ _ _ _ _ _ _ _ _ _ _ _ _ _) | (with_reducible show CompOut _ _ _ _ _ _ _ _ _) | (with_reducible show IterF _ _ _ _ _ _ _ _ _ _ _) | (with_reducible show ForOut _ _ _ _ _ _ _ _ _))); first | (k_unfold; (try dsimp only)) | ((with_reducible refine for_shape ?_); k_dflt (refine ForF (hs := by intro _; rfl) (by k_asm) (by rfl) (by rfl) (by assumption) ?_)) | ((with_reducible refine fort_shape ?_); k_dflt (refine ForF2 (hs := by intro _; rfl) (by k_asm) (by assumption) ?_)) | ((with_reducible refine item_shape ?_); k_dflt (refine item_at (hs := by with_unfolding_all rfl) (by k_asm) (by k_mem) (by assumption) (by first | (with_reducible exact Int.natCast_nonneg _) | (with_reducible assumption) | decide | lia) (by first | (with_reducible assumption) | decide | lia) ?_)) | ((with_reducible refine for_shape ?_); k_dflt (refine ForF (hs := by intro _; rfl) (by k_asm) (by rfl) (by rfl) (by with_unfolding_all passes_own) ?_)) | ((with_reducible show wpAny _ _ (call (Value.builtin "len") [Value.ref _]) _ _ _); k_dflt (refine kst_len (by k_asm) (by k_mem) (by first | assumption | rfl) (by lia) ?_)) | ((with_reducible refine floordiv_int ?kbe ?_ (Or.inl (PyProof.noPylong_of_log2 ?kbp))); (case kbe => first | assumption | lia); (case kbp => assumption)) | walk1 | (dsimp only; walk1) | (leave1; (try dsimp only)) | fail "no step")
        · exact ⟨_, _, _, rfl, ⟨.inr rfl, fun _ => rfl⟩, rfl⟩
        · exact ⟨_, _, _, rfl, ⟨.inl rfl, fun e => by lia⟩, rfl⟩
      intro z tz tk5 hz
      (try dsimp only)
      repeat' ((fail_if_success (first | (with_reducible refine stop_gm ?_) | (with_reducible refine stop_ife ?_) | (with_reducible refine stop_ct ?_) | (with_reducible show wpAny _ _ (setItem (Value.ref _) (Value.ref _) _) _ _ _) | (with_reducible show wpAny _ _ (subscriptTail _ (Expr.Tuple _ _ _) (Value.ref _) (Value.ref _)) _ _ _) | (with_reducible refine stop_ref ?_) | (with_reducible refine stop_lc ?_) | (with_reducible refine stop_alc ?_) | (with_reducible refine stop_zip ?_) | (with_reducible show IterE1 _ _ _ _ _ _ _ _ _ _ _ _ _ _ _) | (with_reducible show IterA1 _ _ _ _ _ _ _ _ _ _ _ _ _ _ _ _) | (with_reducible show CompOut _ _ _ _ _ _ _ _ _) | (with_reducible show IterF _ _ _ _ _ _ _ _ _ _ _) | (with_reducible show ForOut _ _ _ _ _ _ _ _ _))); first | (k_unfold; (try dsimp only)) | ((with_reducible refine for_shape ?_); k_dflt (refine ForF (hs := by intro _; rfl) (by k_asm) (by rfl) (by rfl) (by assumption) ?_)) | ((with_reducible refine fort_shape ?_); k_dflt (refine ForF2 (hs := by intro _; rfl) (by k_asm) (by assumption) ?_)) | ((with_reducible refine item_shape ?_); k_dflt (refine item_at (hs := by with_unfolding_all rfl) (by k_asm) (by k_mem) (by assumption) (by first | (with_reducible exact Int.natCast_nonneg _) | (with_reducible assumption) | decide | lia) (by first | (with_reducible assumption) | decide | lia) ?_)) | ((with_reducible refine for_shape ?_); k_dflt (refine ForF (hs := by intro _; rfl) (by k_asm) (by rfl) (by rfl) (by with_unfolding_all passes_own) ?_)) | ((with_reducible show wpAny _ _ (call (Value.builtin "len") [Value.ref _]) _ _ _); k_dflt (refine kst_len (by k_asm) (by k_mem) (by first | assumption | rfl) (by lia) ?_)) | ((with_reducible refine floordiv_int ?kbe ?_ (Or.inl (PyProof.noPylong_of_log2 ?kbp))); (case kbe => first | assumption | lia); (case kbp => assumption)) | walk1 | (dsimp only; walk1) | (leave1; (try dsimp only)) | fail "no step")
      refine Tell.goDraw (B := by k_asm) (F := by k_asm) (X := by k_asm) (T := by k_asm) (hk := by first | exact rfl | assumption) (N := News.drop N5 fun q hq => ?_) (C := t_draw _ _ _ _ ((d, od2) :: (own2 ++ (tl2 ++ (tl ++ (own ++ [(Y, W.listOf ws.toArray 0)]))))) P Y kk3 0 ws _ (off6 i + j) 3 t3 _ (List.mem_cons_of_mem _ (List.mem_append_right _ (List.mem_append_right _ (List.mem_append_right _ (List.mem_append_right _ List.mem_cons_self))))) (Ints.ofAre hIs) (own_just fun q hq => ?_) (List.length_take_le 8 _) ?_ (by decide)) (ret := ?_) (hd := by first | decide | exact room1 (by assumption) (by decide) | ktr_room) (hu := by first | decide | exact units1 (by assumption) (by decide) | ktr_units)
      · simp only [List.mem_cons, List.mem_append] at hq ⊢
        rcases hq with h | h | h | h | h | h
        · exact .inr (.inr (.inl h))
        · exact .inr (.inl h)
        · exact .inl h
        · exact .inr (.inr (.inr (.inl h)))
        · exact .inr (.inr (.inr (.inr (.inl h))))
        · exact .inr (.inr (.inr (.inr (.inr h))))
      · rcases List.mem_cons.mp hq with rfl | hq
        · exact Ne.symm (Nat.ne_of_lt hdP)
        · exact (hoff q hq).1
      · exact Nat.le_trans (Nat.le_of_lt (List.getElem?_eq_some_iff.mp hp).1) (show 6 ≤ 50 by decide)
      intro v tv tv2 kv h5 tk6 hv F7 N7
      (try dsimp only)
      clear N5 F6
      repeat' ((fail_if_success (first | (with_reducible refine stop_gm ?_) | (with_reducible refine stop_ife ?_) | (with_reducible refine stop_ct ?_) | (with_reducible show wpAny _ _ (setItem (Value.ref _) (Value.ref _) _) _ _ _) | (with_reducible show wpAny _ _ (subscriptTail _ (Expr.Tuple _ _ _) (Value.ref _) (Value.ref _)) _ _ _) | (with_reducible refine stop_ref ?_) | (with_reducible refine stop_lc ?_) | (with_reducible refine stop_alc ?_) | (with_reducible refine stop_zip ?_) | (with_reducible show IterE1 _ _ _ _ _ _ _ _ _ _ _ _ _ _ _) | (with_reducible show IterA1 _ _ _ _ _ _ _ _ _ _ _ _ _ _ _ _) | (with_reducible show CompOut _ _ _ _ _ _ _ _ _) | (with_reducible show IterF _ _ _ _ _ _ _ _ _ _ _) | (with_reducible show ForOut _ _ _ _ _ _ _ _ _))); first | (k_unfold; (try dsimp only)) | ((with_reducible refine for_shape ?_); k_dflt (refine ForF (hs := by intro _; rfl) (by k_asm) (by rfl) (by rfl) (by assumption) ?_)) | ((with_reducible refine fort_shape ?_); k_dflt (refine ForF2 (hs := by intro _; rfl) (by k_asm) (by assumption) ?_)) | ((with_reducible refine item_shape ?_); k_dflt (refine item_at (hs := by with_unfolding_all rfl) (by k_asm) (by k_mem) (by assumption) (by first | (with_reducible exact Int.natCast_nonneg _) | (with_reducible assumption) | decide | lia) (by first | (with_reducible assumption) | decide | lia) ?_)) | ((with_reducible refine for_shape ?_); k_dflt (refine ForF (hs := by intro _; rfl) (by k_asm) (by rfl) (by rfl) (by with_unfolding_all passes_own) ?_)) | ((with_reducible show wpAny _ _ (call (Value.builtin "len") [Value.ref _]) _ _ _); k_dflt (refine kst_len (by k_asm) (by k_mem) (by first | assumption | rfl) (by lia) ?_)) | ((with_reducible refine floordiv_int ?kbe ?_ (Or.inl (PyProof.noPylong_of_log2 ?kbp))); (case kbe => first | assumption | lia); (case kbp => assumption)) | walk1 | (dsimp only; walk1) | (leave1; (try dsimp only)) | fail "no step")
      rename_i FX NX hX FY NY hkX xX nX
      have hlX := fun q hq => Heap.lt_size (NX q hq).1
      clear FX NX hkX xX nX
      refine lines_new (w := _) (p := ((i : Int), (i : Int) + 1 + (j : Int))) (rest := (h5.objs.size, { cls := .type "tuple", data := .seq #[.int (i : Int) ti, .int ((i : Int) + 1 + (j : Int)) tj] }) :: (P, { cls := .type "list", data := .seq (List.toArray [.ref Y, .int ((off6 i + j + 1 : Nat) : Int) tv2]) kv }) :: (own2 ++ (tl2 ++ (tl ++ (own ++ [(Y, W.listOf ws.toArray 0)]))))) (by first | ktr_units | units_room) FY NY (List.mem_cons_of_mem _ (List.mem_cons_of_mem _ List.mem_cons_self)) (hl2.mono fun q hq _ => List.mem_cons_of_mem _ (List.mem_cons_of_mem _ (List.mem_append_right _ hq))) List.mem_cons_self (pairs6_fresh hp) (by rw [List.length_take]; exact Nat.le_trans (Nat.min_le_right ..) (by decide)) (fun q hq => ?_) ?_
      · rcases List.mem_cons.mp hq with rfl | hq
        · exact ⟨List.mem_cons_self, Ne.symm (Nat.ne_of_lt (hlX (d, od2) (List.mem_cons_of_mem _ List.mem_cons_self)))⟩
        · rcases List.mem_cons.mp hq with rfl | hq
          · exact ⟨List.mem_cons_of_mem _ List.mem_cons_self, Nat.ne_of_lt hdP⟩
          · exact ⟨List.mem_cons_of_mem _ (List.mem_cons_of_mem _ (List.mem_cons_of_mem _ hq)), (hoff q hq).2⟩
      intro od3 h7 tk7 F9 N9 hl9
      clear FY NY
      repeat' ((fail_if_success (first | (with_reducible refine stop_gm ?_) | (with_reducible refine stop_ife ?_) | (with_reducible refine stop_ct ?_) | (with_reducible show wpAny _ _ (setItem (Value.ref _) (Value.ref _) _) _ _ _) | (with_reducible show wpAny _ _ (subscriptTail _ (Expr.Tuple _ _ _) (Value.ref _) (Value.ref _)) _ _ _) | (with_reducible refine stop_ref ?_) | (with_reducible refine stop_lc ?_) | (with_reducible refine stop_alc ?_) | (with_reducible refine stop_zip ?_) | (with_reducible show IterE1 _ _ _ _ _ _ _ _ _ _ _ _ _ _ _) | (with_reducible show IterA1 _ _ _ _ _ _ _ _ _ _ _ _ _ _ _ _) | (with_reducible show CompOut _ _ _ _ _ _ _ _ _) | (with_reducible show IterF _ _ _ _ _ _ _ _ _ _ _) | (with_reducible show ForOut _ _ _ _ _ _ _ _ _))); first | (k_unfold; (try dsimp only)) | ((with_reducible refine for_shape ?_); k_dflt (refine ForF (hs := by intro _; rfl) (by k_asm) (by rfl) (by rfl) (by assumption) ?_)) | ((with_reducible refine fort_shape ?_); k_dflt (refine ForF2 (hs := by intro _; rfl) (by k_asm) (by assumption) ?_)) | ((with_reducible refine item_shape ?_); k_dflt (refine item_at (hs := by with_unfolding_all rfl) (by k_asm) (by k_mem) (by assumption) (by first | (with_reducible exact Int.natCast_nonneg _) | (with_reducible assumption) | decide | lia) (by first | (with_reducible assumption) | decide | lia) ?_)) | ((with_reducible refine for_shape ?_); k_dflt (refine ForF (hs := by intro _; rfl) (by k_asm) (by rfl) (by rfl) (by with_unfolding_all passes_own) ?_)) | ((with_reducible show wpAny _ _ (call (Value.builtin "len") [Value.ref _]) _ _ _); k_dflt (refine kst_len (by k_asm) (by k_mem) (by first | assumption | rfl) (by lia) ?_)) | ((with_reducible refine floordiv_int ?kbe ?_ (Or.inl (PyProof.noPylong_of_log2 ?kbp))); (case kbe => first | assumption | lia); (case kbp => assumption)) | walk1 | (dsimp only; walk1) | (leave1; (try dsimp only)) | fail "no step")
      exact fill_close (p := ((i : Int), (i : Int) + 1 + (j : Int))) ht2 htd2 (fun q hq => hlX q (List.mem_cons_of_mem _ (List.mem_cons_of_mem _ hq))) (hlX (d, od2) (List.mem_cons_of_mem _ List.mem_cons_self)) hown2 (by k_asm) N9 hl9 hp hok2 (m := z.toNat + v) (fill_sum hz) (fill_le hz hv) (fun hc => fill_one hz (off6_low i hi j hj hc)) (by with_unfolding_all rfl) (by with_unfolding_all rfl) (by with_unfolding_all rfl)
    · intro h4 tk4 m₂ led₂ hJ2 F5 N5
      refine hQ8 _ _ ?_
      (try dsimp only)
      repeat' ((fail_if_success (first | (with_reducible refine stop_gm ?_) | (with_reducible refine stop_ife ?_) | (with_reducible refine stop_ct ?_) | (with_reducible show wpAny _ _ (setItem (Value.ref _) (Value.ref _) _) _ _ _) | (with_reducible show wpAny _ _ (subscriptTail _ (Expr.Tuple _ _ _) (Value.ref _) (Value.ref _)) _ _ _) | (with_reducible refine stop_ref ?_) | (with_reducible refine stop_lc ?_) | (with_reducible refine stop_alc ?_) | (with_reducible refine stop_zip ?_) | (with_reducible show IterE1 _ _ _ _ _ _ _ _ _ _ _ _ _ _ _) | (with_reducible show IterA1 _ _ _ _ _ _ _ _ _ _ _ _ _ _ _ _) | (with_reducible show CompOut _ _ _ _ _ _ _ _ _) | (with_reducible show IterF _ _ _ _ _ _ _ _ _ _ _) | (with_reducible show ForOut _ _ _ _ _ _ _ _ _))); first | (k_unfold; (try dsimp only)) | ((with_reducible refine for_shape ?_); k_dflt (refine ForF (hs := by intro _; rfl) (by k_asm) (by rfl) (by rfl) (by assumption) ?_)) | ((with_reducible refine fort_shape ?_); k_dflt (refine ForF2 (hs := by intro _; rfl) (by k_asm) (by assumption) ?_)) | ((with_reducible refine item_shape ?_); k_dflt (refine item_at (hs := by with_unfolding_all rfl) (by k_asm) (by k_mem) (by assumption) (by first | (with_reducible exact Int.natCast_nonneg _) | (with_reducible assumption) | decide | lia) (by first | (with_reducible assumption) | decide | lia) ?_)) | ((with_reducible refine for_shape ?_); k_dflt (refine ForF (hs := by intro _; rfl) (by k_asm) (by rfl) (by rfl) (by with_unfolding_all passes_own) ?_)) | ((with_reducible show wpAny _ _ (call (Value.builtin "len") [Value.ref _]) _ _ _); k_dflt (refine kst_len (by k_asm) (by k_mem) (by first | assumption | rfl) (by lia) ?_)) | ((with_reducible refine floordiv_int ?kbe ?_ (Or.inl (PyProof.noPylong_of_log2 ?kbp))); (case kbe => first | assumption | lia); (case kbp => assumption)) | walk1 | (dsimp only; walk1) | (leave1; (try dsimp only)) | fail "no step")
      exact fill_outer hJ2 ht htd hown (by k_asm) (by k_asm) (off6_next i hi)
  · intro h2 tk2 m₁ led₁ hJ F2 N2
    refine hide fun H9 hH9 => ?_
    obtain ⟨tl, od1, ms, t1, kk1, rfl, -, htd, hl, hok, e1, e2, -⟩ := hJ
    have hok6 : FillOk 6 ms := hok
    have hL := hok6.ok
    have hl6 : IsLines PR _ (tl ++ [(Y, W.listOf ws.toArray 0)]) d od1 pairs6 (intL ms) := hl
    have F3 := fr_known (fr_known F2 e1) (x := Str.ofString "lines") (by rw [if_neg (by decide)]; exact e2)
    have hdP : @LT.lt Nat _ P d := ld.1
    refine hH9 ?_
    clear hH9 H9 F2 F1 N1 hr hl hok
    refine hQ9 _ _ ?_
    (try dsimp only)
    repeat' ((fail_if_success (first | (with_reducible refine stop_gm ?_) | (with_reducible refine stop_ife ?_) | (with_reducible refine stop_ct ?_) | (with_reducible show wpAny _ _ (setItem (Value.ref _) (Value.ref _) _) _ _ _) | (with_reducible show wpAny _ _ (subscriptTail _ (Expr.Tuple _ _ _) (Value.ref _) (Value.ref _)) _ _ _) | (with_reducible refine stop_ref ?_) | (with_reducible refine stop_lc ?_) | (with_reducible refine stop_alc ?_) | (with_reducible refine stop_zip ?_) | (with_reducible show IterE1 _ _ _ _ _ _ _ _ _ _ _ _ _ _ _) | (with_reducible show IterA1 _ _ _ _ _ _ _ _ _ _ _ _ _ _ _ _) | (with_reducible show CompOut _ _ _ _ _ _ _ _ _) | (with_reducible show IterF _ _ _ _ _ _ _ _ _ _ _) | (with_reducible show ForOut _ _ _ _ _ _ _ _ _))); first | (k_unfold; (try dsimp only)) | ((with_reducible refine for_shape ?_); k_dflt (refine ForF (hs := by intro _; rfl) (by k_asm) (by rfl) (by rfl) (by assumption) ?_)) | ((with_reducible refine fort_shape ?_); k_dflt (refine ForF2 (hs := by intro _; rfl) (by k_asm) (by assumption) ?_)) | ((with_reducible refine item_shape ?_); k_dflt (refine item_at (hs := by with_unfolding_all rfl) (by k_asm) (by k_mem) (by assumption) (by first | (with_reducible exact Int.natCast_nonneg _) | (with_reducible assumption) | decide | lia) (by first | (with_reducible assumption) | decide | lia) ?_)) | ((with_reducible refine for_shape ?_); k_dflt (refine ForF (hs := by intro _; rfl) (by k_asm) (by rfl) (by rfl) (by with_unfolding_all passes_own) ?_)) | ((with_reducible show wpAny _ _ (call (Value.builtin "len") [Value.ref _]) _ _ _); k_dflt (refine kst_len (by k_asm) (by k_mem) (by first | assumption | rfl) (by lia) ?_)) | ((with_reducible refine floordiv_int ?kbe ?_ (Or.inl (PyProof.noPylong_of_log2 ?kbp))); (case kbe => first | assumption | lia); (case kbp => assumption)) | walk1 | (dsimp only; walk1) | (leave1; (try dsimp only)) | fail "no step")
    refine Tell.goG (N := by k_asm) (B := by k_asm) (F := by k_asm) (X := by k_asm) (T := by k_asm) (hk := by first | exact rfl | assumption) (C := t_grid _ _ _ _ _ d od1 (intL ms) (by k_mem) (hl6.mono fun q hq _ => List.mem_cons_of_mem _ (List.mem_cons_of_mem _ hq))) (ret := ?_) (hd := by first | decide | exact room1 (by assumption) (by decide) | ktr_room) (hu := by first | decide | exact units1 (by assumption) (by decide) | ktr_units)
    intro tlG R rs kR h3 tk3 htG mR hR hnew F4 N4
    refine hide fun H9 hH9 => ?_
    have hnP := hnew (P, _) (List.mem_cons_of_mem _ List.mem_cons_self)
    have mR' := mem_less mR (Ne.symm (Nat.ne_of_lt hnP.1))
    have hR' := hR.restrict (fun p hp hy => mem_less hp fun e => hnP.2 (by rw [← e]; exact hy))
    have hl7 := hl6.mono (led' := tlG ++ (d, od1) :: (tl ++ [(Y, W.listOf ws.toArray 0)])) fun q hq _ => List.mem_append_right _ (List.mem_cons_of_mem _ hq)
    have mD : (d, od1) ∈ tlG ++ (d, od1) :: (tl ++ [(Y, W.listOf ws.toArray 0)]) := List.mem_append_right _ List.mem_cons_self
    have mY : (Y, W.listOf ws.toArray 0) ∈ tlG ++ (d, od1) :: (tl ++ [(Y, W.listOf ws.toArray 0)]) := List.mem_append_right _ (List.mem_cons_of_mem _ (List.mem_append_right _ List.mem_cons_self))
    have hoP : ∀ q ∈ tlG ++ (d, od1) :: (tl ++ [(Y, W.listOf ws.toArray 0)]), q.1 ≠ P := fun q hq => by
      rcases List.mem_append.mp hq with hq | hq
      · exact Ne.symm (Nat.ne_of_lt (htG q hq _ (List.mem_cons_of_mem _ List.mem_cons_self)))
      · rcases List.mem_cons.mp hq with rfl | hq
        · exact Ne.symm (Nat.ne_of_lt hdP)
        · rcases List.mem_append.mp hq with hq | hq
          · exact Ne.symm (Nat.ne_of_lt (Nat.lt_trans hdP (htd q hq)))
          · rw [List.mem_singleton.mp hq]
            exact Nat.ne_of_lt lPY
    have NB : News _ _ h3 ((P, { cls := .type "list", data := .seq (List.toArray [.ref Y, .int ((6 : Nat) : Int) t1]) kk1 }) :: (tlG ++ (d, od1) :: (tl ++ [(Y, W.listOf ws.toArray 0)]))) := News.drop N4 fun q hq => mem_more hq
    refine hH9 ?_
    clear hH9 H9 F3 N2 N4 mR hR hl6 hnew htG
    generalize tlG ++ (d, od1) :: (tl ++ [(Y, W.listOf ws.toArray 0)]) = RL at *
    (try dsimp only)
    repeat' ((fail_if_success (first | (with_reducible refine stop_gm ?_) | (with_reducible refine stop_ife ?_) | (with_reducible refine stop_ct ?_) | (with_reducible show wpAny _ _ (setItem (Value.ref _) (Value.ref _) _) _ _ _) | (with_reducible show wpAny _ _ (subscriptTail _ (Expr.Tuple _ _ _) (Value.ref _) (Value.ref _)) _ _ _) | (with_reducible refine stop_ref ?_) | (with_reducible refine stop_lc ?_) | (with_reducible refine stop_alc ?_) | (with_reducible refine stop_zip ?_) | (with_reducible show IterE1 _ _ _ _ _ _ _ _ _ _ _ _ _ _ _) | (with_reducible show IterA1 _ _ _ _ _ _ _ _ _ _ _ _ _ _ _ _) | (with_reducible show CompOut _ _ _ _ _ _ _ _ _) | (with_reducible show IterF _ _ _ _ _ _ _ _ _ _ _) | (with_reducible show ForOut _ _ _ _ _ _ _ _ _))); first | (k_unfold; (try dsimp only)) | ((with_reducible refine for_shape ?_); k_dflt (refine ForF (hs := by intro _; rfl) (by k_asm) (by rfl) (by rfl) (by assumption) ?_)) | ((with_reducible refine fort_shape ?_); k_dflt (refine ForF2 (hs := by intro _; rfl) (by k_asm) (by assumption) ?_)) | ((with_reducible refine item_shape ?_); k_dflt (refine item_at (hs := by with_unfolding_all rfl) (by k_asm) (by k_mem) (by assumption) (by first | (with_reducible exact Int.natCast_nonneg _) | (with_reducible assumption) | decide | lia) (by first | (with_reducible assumption) | decide | lia) ?_)) | ((with_reducible refine for_shape ?_); k_dflt (refine ForF (hs := by intro _; rfl) (by k_asm) (by rfl) (by rfl) (by with_unfolding_all passes_own) ?_)) | ((with_reducible show wpAny _ _ (call (Value.builtin "len") [Value.ref _]) _ _ _); k_dflt (refine kst_len (by k_asm) (by k_mem) (by first | assumption | rfl) (by lia) ?_)) | ((with_reducible refine floordiv_int ?kbe ?_ (Or.inl (PyProof.noPylong_of_log2 ?kbp))); (case kbe => first | assumption | lia); (case kbp => assumption)) | walk1 | (dsimp only; walk1) | (leave1; (try dsimp only)) | fail "no step")
    rename_i hG4 hGk xG nG hG3 hG2 hG1 hG0 FG NG
    clear hGk xG nG
    have NB2 := News.drop NG (fun q hq => List.mem_cons_of_mem _ hq)
    clear NG
    refine hide fun H9 hH9 => ?_
    obtain ⟨es, ep, hx, hdat, hes, hzl, hent⟩ := lines_entry hl7
    refine hH9 ?_
    clear hH9 H9
    refine raw_method PySem.F.slot_dict_items PySem.F.type_dict_items ⟨_, (NB2 _ (List.mem_cons_of_mem _ mD)).1, hx, hdat⟩ ?_
    refine callWith_method0 ?_
    refine raw_items hl7.1 ⟨_, (NB2 _ (List.mem_cons_of_mem _ mD)).1, hx, hdat⟩ FG NB2 ?_
    intro vw ov h4 hvc hvd F5 N5 lv _
    clear FG NB2
    refine IterF2.items rfl F5 N5 List.mem_cons_self hvc hvd (List.mem_cons_of_mem _ (List.mem_cons_of_mem _ mD)) hx hdat (SumJ R d P ms _) ⟨rfl, by with_unfolding_all rfl, by with_unfolding_all rfl, by with_unfolding_all rfl, ⟨_, by with_unfolding_all rfl⟩, _, _, by with_unfolding_all rfl, .inl rfl⟩ ?_ ?_
    · intro j e T2 m₃ led₁ own h5 tk5 hj he hJ2 _ hT2 F6 N6
      refine hide fun H9 hH9 => ?_
      obtain ⟨rfl, c1, c2, c3, ⟨tt, c4⟩, tr, tv, c5, c6⟩ := hJ2
      obtain ⟨a, ta, ua, va, p, z, ek9, ev9, hp, hz9, ma⟩ := hent j e he
      obtain ⟨hz8, hzm⟩ := intL_get hz9
      subst hzm
      rw [ek9, ev9] at hT2
      have hj6 : j < 6 := by rw [hes] at hj; exact hj
      have hP := hL.pair hp
      have hF := four_grid (intL ms) 6
      have hS := hL.small
      have hb1 := hL.tr
      have hb2 := hL.pt hj6
      obtain ⟨ya1, ya2⟩ := lay_but p (List.mem_of_getElem? hp)
      obtain ⟨k1, qs1, g1, g2, g3, g4⟩ := hP.s1
      obtain ⟨k2, qs2, f1, f2, f3, f4⟩ := hP.s2
      have F7 := fr_known5 F6 (a := Str.ofString "grid") (b := Str.ofString "lines") (c := Str.ofString "bag") (d := Str.ofString "total") (e := Str.ofString "trees") c1 c2 c3 c4 c5
      have ma2 : (a, ({ cls := .type "tuple", data := .seq #[.int p.1 ta, .int p.2 ua] } : Obj)) ∈ own ++ (vw, ov) :: (P, { cls := .type "list", data := .seq (List.toArray [.ref Y, .int ((6 : Nat) : Int) t1]) kk1 }) :: RL := List.mem_append_right _ (List.mem_cons_of_mem _ (List.mem_cons_of_mem _ ma))
      have mR2 : (R, ({ cls := .type "list", data := .seq (List.toArray rs) kR } : Obj)) ∈ own ++ (vw, ov) :: (P, { cls := .type "list", data := .seq (List.toArray [.ref Y, .int ((6 : Nat) : Int) t1]) kk1 }) :: RL := List.mem_append_right _ (List.mem_cons_of_mem _ (List.mem_cons_of_mem _ mR'))
      have hR2 := hR'.mono (led' := own ++ (vw, ov) :: (P, { cls := .type "list", data := .seq (List.toArray [.ref Y, .int ((6 : Nat) : Int) t1]) kk1 }) :: RL) fun q hq => List.mem_append_right _ (List.mem_cons_of_mem _ (List.mem_cons_of_mem _ hq))
      generalize hL2 : own ++ (vw, ov) :: (P, { cls := .type "list", data := .seq (List.toArray [.ref Y, .int ((6 : Nat) : Int) t1]) kk1 }) :: RL = L2 at *
      generalize gridTo (intL ms) 6 = GM at *
      refine hH9 ?_
      clear hH9 H9 F6 F5 N5
      repeat' ((fail_if_success (first | (with_reducible refine stop_gm ?_) | (with_reducible refine stop_ife ?_) | (with_reducible refine stop_ct ?_) | (with_reducible show wpAny _ _ (setItem (Value.ref _) (Value.ref _) _) _ _ _) | (with_reducible show wpAny _ _ (subscriptTail _ (Expr.Tuple _ _ _) (Value.ref _) (Value.ref _)) _ _ _) | (with_reducible refine stop_ref ?_) | (with_reducible refine stop_lc ?_) | (with_reducible refine stop_alc ?_) | (with_reducible refine stop_zip ?_) | (with_reducible show IterE1 _ _ _ _ _ _ _ _ _ _ _ _ _ _ _) | (with_reducible show IterA1 _ _ _ _ _ _ _ _ _ _ _ _ _ _ _ _) | (with_reducible show CompOut _ _ _ _ _ _ _ _ _) | (with_reducible show IterF _ _ _ _ _ _ _ _ _ _ _) | (with_reducible show ForOut _ _ _ _ _ _ _ _ _))); first | (k_unfold; (try dsimp only)) | ((with_reducible refine for_shape ?_); k_dflt (refine ForF (hs := by intro _; rfl) (by k_asm) (by rfl) (by rfl) (by assumption) ?_)) | ((with_reducible refine fort_shape ?_); k_dflt (refine ForF2 (hs := by intro _; rfl) (by k_asm) (by assumption) ?_)) | ((with_reducible refine item_shape ?_); k_dflt (refine item_at (hs := by with_unfolding_all rfl) (by k_asm) (by k_mem) (by assumption) (by first | (with_reducible exact Int.natCast_nonneg _) | (with_reducible assumption) | decide | lia) (by first | (with_reducible assumption) | decide | lia) ?_)) | ((with_reducible refine for_shape ?_); k_dflt (refine ForF (hs := by intro _; rfl) (by k_asm) (by rfl) (by rfl) (by with_unfolding_all passes_own) ?_)) | ((with_reducible show wpAny _ _ (call (Value.builtin "len") [Value.ref _]) _ _ _); k_dflt (refine kst_len (by k_asm) (by k_mem) (by first | assumption | rfl) (by lia) ?_)) | ((with_reducible refine floordiv_int ?kbe ?_ (Or.inl (PyProof.noPylong_of_log2 ?kbp))); (case kbe => first | assumption | lia); (case kbp => assumption)) | walk1 | (dsimp only; walk1) | (leave1; (try dsimp only)) | fail "no step")
      · refine Tell.goQ (N := by k_asm) (B := by k_asm) (F := by k_asm) (X := by k_asm) (T := by k_asm) (hk := by first | exact rfl | assumption) (C := t_resist _ _ _ _ _ GM R kR rs mR2 hR2 hF.1 hF.2 hS p.1 p.2 _ _ _ _ hP.l1 hP.l2 hP.d2 (lt9 hb2.2) hP.d3 (lt9 hb1.2) (ne0 hb1.1)) (ret := ?_) (hd := by first | decide | exact room1 (by assumption) (by decide) | ktr_room) (hu := by first | decide | exact units1 (by assumption) (by decide) | ktr_units)
        intro x5 t5 u5 h6 tk6 l5 F8 N8
        (try dsimp only)
        clear F7 N6
        repeat' ((fail_if_success (first | (with_reducible refine stop_gm ?_) | (with_reducible refine stop_ife ?_) | (with_reducible refine stop_ct ?_) | (with_reducible show wpAny _ _ (setItem (Value.ref _) (Value.ref _) _) _ _ _) | (with_reducible show wpAny _ _ (subscriptTail _ (Expr.Tuple _ _ _) (Value.ref _) (Value.ref _)) _ _ _) | (with_reducible refine stop_ref ?_) | (with_reducible refine stop_lc ?_) | (with_reducible refine stop_alc ?_) | (with_reducible refine stop_zip ?_) | (with_reducible show IterE1 _ _ _ _ _ _ _ _ _ _ _ _ _ _ _) | (with_reducible show IterA1 _ _ _ _ _ _ _ _ _ _ _ _ _ _ _ _) | (with_reducible show CompOut _ _ _ _ _ _ _ _ _) | (with_reducible show IterF _ _ _ _ _ _ _ _ _ _ _) | (with_reducible show ForOut _ _ _ _ _ _ _ _ _))); first | (k_unfold; (try dsimp only)) | ((with_reducible refine for_shape ?_); k_dflt (refine ForF (hs := by intro _; rfl) (by k_asm) (by rfl) (by rfl) (by assumption) ?_)) | ((with_reducible refine fort_shape ?_); k_dflt (refine ForF2 (hs := by intro _; rfl) (by k_asm) (by assumption) ?_)) | ((with_reducible refine item_shape ?_); k_dflt (refine item_at (hs := by with_unfolding_all rfl) (by k_asm) (by k_mem) (by assumption) (by first | (with_reducible exact Int.natCast_nonneg _) | (with_reducible assumption) | decide | lia) (by first | (with_reducible assumption) | decide | lia) ?_)) | ((with_reducible refine for_shape ?_); k_dflt (refine ForF (hs := by intro _; rfl) (by k_asm) (by rfl) (by rfl) (by with_unfolding_all passes_own) ?_)) | ((with_reducible show wpAny _ _ (call (Value.builtin "len") [Value.ref _]) _ _ _); k_dflt (refine kst_len (by k_asm) (by k_mem) (by first | assumption | rfl) (by lia) ?_)) | ((with_reducible refine floordiv_int ?kbe ?_ (Or.inl (PyProof.noPylong_of_log2 ?kbp))); (case kbe => first | assumption | lia); (case kbp => assumption)) | walk1 | (dsimp only; walk1) | (leave1; (try dsimp only)) | fail "no step")
        refine Tell.goS (N := by k_asm) (B := by k_asm) (F := by k_asm) (X := by k_asm) (T := by k_asm) (hk := by first | exact rfl | assumption) (C := t_lsolved _ _ _ _ _ GM R kR rs (List.mem_cons_of_mem _ mR2) (hR2.mono fun _ h => List.mem_cons_of_mem _ h) hF.1 hF.2 hS p.1 p.2 _ _ k1 qs1 _ hP.l1 g1 g2 ya1 g3 g4) (ret := ?_) (hd := by first | decide | exact room1 (by assumption) (by decide) | ktr_room) (hu := by first | decide | exact units1 (by assumption) (by decide) | ktr_units)
        intro tl6 y6 t6 u6 h7 tk7 m6 F9 N9
        (try dsimp only)
        repeat' ((fail_if_success (first | (with_reducible refine stop_gm ?_) | (with_reducible refine stop_ife ?_) | (with_reducible refine stop_ct ?_) | (with_reducible show wpAny _ _ (setItem (Value.ref _) (Value.ref _) _) _ _ _) | (with_reducible show wpAny _ _ (subscriptTail _ (Expr.Tuple _ _ _) (Value.ref _) (Value.ref _)) _ _ _) | (with_reducible refine stop_ref ?_) | (with_reducible refine stop_lc ?_) | (with_reducible refine stop_alc ?_) | (with_reducible refine stop_zip ?_) | (with_reducible show IterE1 _ _ _ _ _ _ _ _ _ _ _ _ _ _ _) | (with_reducible show IterA1 _ _ _ _ _ _ _ _ _ _ _ _ _ _ _ _) | (with_reducible show CompOut _ _ _ _ _ _ _ _ _) | (with_reducible show IterF _ _ _ _ _ _ _ _ _ _ _) | (with_reducible show ForOut _ _ _ _ _ _ _ _ _))); first | (k_unfold; (try dsimp only)) | ((with_reducible refine for_shape ?_); k_dflt (refine ForF (hs := by intro _; rfl) (by k_asm) (by rfl) (by rfl) (by assumption) ?_)) | ((with_reducible refine fort_shape ?_); k_dflt (refine ForF2 (hs := by intro _; rfl) (by k_asm) (by assumption) ?_)) | ((with_reducible refine item_shape ?_); k_dflt (refine item_at (hs := by with_unfolding_all rfl) (by k_asm) (by k_mem) (by assumption) (by first | (with_reducible exact Int.natCast_nonneg _) | (with_reducible assumption) | decide | lia) (by first | (with_reducible assumption) | decide | lia) ?_)) | ((with_reducible refine for_shape ?_); k_dflt (refine ForF (hs := by intro _; rfl) (by k_asm) (by rfl) (by rfl) (by with_unfolding_all passes_own) ?_)) | ((with_reducible show wpAny _ _ (call (Value.builtin "len") [Value.ref _]) _ _ _); k_dflt (refine kst_len (by k_asm) (by k_mem) (by first | assumption | rfl) (by lia) ?_)) | ((with_reducible refine floordiv_int ?kbe ?_ (Or.inl (PyProof.noPylong_of_log2 ?kbp))); (case kbe => first | assumption | lia); (case kbp => assumption)) | walk1 | (dsimp only; walk1) | (leave1; (try dsimp only)) | fail "no step")
        refine ne_two (by k_asm) m6 (List.mem_append_right _ List.mem_cons_self) (by first | ktr_units | units_room) ?_
        (try dsimp only)
        repeat' ((fail_if_success (first | (with_reducible refine stop_gm ?_) | (with_reducible refine stop_ife ?_) | (with_reducible refine stop_ct ?_) | (with_reducible show wpAny _ _ (setItem (Value.ref _) (Value.ref _) _) _ _ _) | (with_reducible show wpAny _ _ (subscriptTail _ (Expr.Tuple _ _ _) (Value.ref _) (Value.ref _)) _ _ _) | (with_reducible refine stop_ref ?_) | (with_reducible refine stop_lc ?_) | (with_reducible refine stop_alc ?_) | (with_reducible refine stop_zip ?_) | (with_reducible show IterE1 _ _ _ _ _ _ _ _ _ _ _ _ _ _ _) | (with_reducible show IterA1 _ _ _ _ _ _ _ _ _ _ _ _ _ _ _ _) | (with_reducible show CompOut _ _ _ _ _ _ _ _ _) | (with_reducible show IterF _ _ _ _ _ _ _ _ _ _ _) | (with_reducible show ForOut _ _ _ _ _ _ _ _ _))); first | (k_unfold; (try dsimp only)) | ((with_reducible refine for_shape ?_); k_dflt (refine ForF (hs := by intro _; rfl) (by k_asm) (by rfl) (by rfl) (by assumption) ?_)) | ((with_reducible refine fort_shape ?_); k_dflt (refine ForF2 (hs := by intro _; rfl) (by k_asm) (by assumption) ?_)) | ((with_reducible refine item_shape ?_); k_dflt (refine item_at (hs := by with_unfolding_all rfl) (by k_asm) (by k_mem) (by assumption) (by first | (with_reducible exact Int.natCast_nonneg _) | (with_reducible assumption) | decide | lia) (by first | (with_reducible assumption) | decide | lia) ?_)) | ((with_reducible refine for_shape ?_); k_dflt (refine ForF (hs := by intro _; rfl) (by k_asm) (by rfl) (by rfl) (by with_unfolding_all passes_own) ?_)) | ((with_reducible show wpAny _ _ (call (Value.builtin "len") [Value.ref _]) _ _ _); k_dflt (refine kst_len (by k_asm) (by k_mem) (by first | assumption | rfl) (by lia) ?_)) | ((with_reducible refine floordiv_int ?kbe ?_ (Or.inl (PyProof.noPylong_of_log2 ?kbp))); (case kbe => first | assumption | lia); (case kbp => assumption)) | walk1 | (dsimp only; walk1) | (leave1; (try dsimp only)) | fail "no step")
        refine Tell.goS (N := by k_asm) (B := by k_asm) (F := by k_asm) (X := by k_asm) (T := by k_asm) (hk := by first | exact rfl | assumption) (C := t_lsolved _ _ _ _ _ GM R kR rs (List.mem_append_right _ (List.mem_cons_of_mem _ mR2)) (hR2.mono fun _ h => List.mem_append_right _ (List.mem_cons_of_mem _ h)) hF.1 hF.2 hS p.2 p.1 _ _ k2 qs2 _ hP.l1' f1 f2 ya2 f3 f4) (ret := ?_) (hd := by first | decide | exact room1 (by assumption) (by decide) | ktr_room) (hu := by first | decide | exact units1 (by assumption) (by decide) | ktr_units)
        intro tl7 y7 t7 u7 h8 tk8 m7 F10 N10
        (try dsimp only)
        repeat' ((fail_if_success (first | (with_reducible refine stop_gm ?_) | (with_reducible refine stop_ife ?_) | (with_reducible refine stop_ct ?_) | (with_reducible show wpAny _ _ (setItem (Value.ref _) (Value.ref _) _) _ _ _) | (with_reducible show wpAny _ _ (subscriptTail _ (Expr.Tuple _ _ _) (Value.ref _) (Value.ref _)) _ _ _) | (with_reducible refine stop_ref ?_) | (with_reducible refine stop_lc ?_) | (with_reducible refine stop_alc ?_) | (with_reducible refine stop_zip ?_) | (with_reducible show IterE1 _ _ _ _ _ _ _ _ _ _ _ _ _ _ _) | (with_reducible show IterA1 _ _ _ _ _ _ _ _ _ _ _ _ _ _ _ _) | (with_reducible show CompOut _ _ _ _ _ _ _ _ _) | (with_reducible show IterF _ _ _ _ _ _ _ _ _ _ _) | (with_reducible show ForOut _ _ _ _ _ _ _ _ _))); first | (k_unfold; (try dsimp only)) | ((with_reducible refine for_shape ?_); k_dflt (refine ForF (hs := by intro _; rfl) (by k_asm) (by rfl) (by rfl) (by assumption) ?_)) | ((with_reducible refine fort_shape ?_); k_dflt (refine ForF2 (hs := by intro _; rfl) (by k_asm) (by assumption) ?_)) | ((with_reducible refine item_shape ?_); k_dflt (refine item_at (hs := by with_unfolding_all rfl) (by k_asm) (by k_mem) (by assumption) (by first | (with_reducible exact Int.natCast_nonneg _) | (with_reducible assumption) | decide | lia) (by first | (with_reducible assumption) | decide | lia) ?_)) | ((with_reducible refine for_shape ?_); k_dflt (refine ForF (hs := by intro _; rfl) (by k_asm) (by rfl) (by rfl) (by with_unfolding_all passes_own) ?_)) | ((with_reducible show wpAny _ _ (call (Value.builtin "len") [Value.ref _]) _ _ _); k_dflt (refine kst_len (by k_asm) (by k_mem) (by first | assumption | rfl) (by lia) ?_)) | ((with_reducible refine floordiv_int ?kbe ?_ (Or.inl (PyProof.noPylong_of_log2 ?kbp))); (case kbe => first | assumption | lia); (case kbp => assumption)) | walk1 | (dsimp only; walk1) | (leave1; (try dsimp only)) | fail "no step")
        refine ne_two (by k_asm) m7 (List.mem_append_right _ (List.mem_append_right _ List.mem_cons_self)) (by first | ktr_units | units_room) ?_
        (try dsimp only)
        clear m6 m7
        repeat' ((fail_if_success (first | (with_reducible refine stop_gm ?_) | (with_reducible refine stop_ife ?_) | (with_reducible refine stop_ct ?_) | (with_reducible show wpAny _ _ (setItem (Value.ref _) (Value.ref _) _) _ _ _) | (with_reducible show wpAny _ _ (subscriptTail _ (Expr.Tuple _ _ _) (Value.ref _) (Value.ref _)) _ _ _) | (with_reducible refine stop_ref ?_) | (with_reducible refine stop_lc ?_) | (with_reducible refine stop_alc ?_) | (with_reducible refine stop_zip ?_) | (with_reducible show IterE1 _ _ _ _ _ _ _ _ _ _ _ _ _ _ _) | (with_reducible show IterA1 _ _ _ _ _ _ _ _ _ _ _ _ _ _ _ _) | (with_reducible show CompOut _ _ _ _ _ _ _ _ _) | (with_reducible show IterF _ _ _ _ _ _ _ _ _ _ _) | (with_reducible show ForOut _ _ _ _ _ _ _ _ _))); first | (k_unfold; (try dsimp only)) | ((with_reducible refine for_shape ?_); k_dflt (refine ForF (hs := by intro _; rfl) (by k_asm) (by rfl) (by rfl) (by assumption) ?_)) | ((with_reducible refine fort_shape ?_); k_dflt (refine ForF2 (hs := by intro _; rfl) (by k_asm) (by assumption) ?_)) | ((with_reducible refine item_shape ?_); k_dflt (refine item_at (hs := by with_unfolding_all rfl) (by k_asm) (by k_mem) (by assumption) (by first | (with_reducible exact Int.natCast_nonneg _) | (with_reducible assumption) | decide | lia) (by first | (with_reducible assumption) | decide | lia) ?_)) | ((with_reducible refine for_shape ?_); k_dflt (refine ForF (hs := by intro _; rfl) (by k_asm) (by rfl) (by rfl) (by with_unfolding_all passes_own) ?_)) | ((with_reducible show wpAny _ _ (call (Value.builtin "len") [Value.ref _]) _ _ _); k_dflt (refine kst_len (by k_asm) (by k_mem) (by first | assumption | rfl) (by lia) ?_)) | ((with_reducible refine floordiv_int ?kbe ?_ (Or.inl (PyProof.noPylong_of_log2 ?kbp))); (case kbe => first | assumption | lia); (case kbp => assumption)) | walk1 | (dsimp only; walk1) | (leave1; (try dsimp only)) | fail "no step")
        rename_i Z1 hZ FZ NZ lZ
        have NZ1 := News.drop (news := (Z1, W.listOf #[Value.int p.2 ua] 0) :: L2) NZ (fun q hq => by
          rcases List.mem_cons.mp hq with rfl | hq
          · exact List.mem_cons_self
          · exact List.mem_cons_of_mem _ (List.mem_append_right _ (List.mem_append_right _ (List.mem_cons_of_mem _ hq))))
        clear NZ lZ
        refine Tell.goM (N := by k_asm) (B := by k_asm) (F := by k_asm) (X := by k_asm) (T := by k_asm) (hk := by first | exact rfl | assumption) (C := t_cut _ _ _ _ _ GM R Z1 kR _ rs _ [p.2] (List.mem_cons_of_mem _ mR2) (hR2.mono fun _ h => List.mem_cons_of_mem _ h) hF.1 hF.2 List.mem_cons_self (.cons .nil) (show 1 ≤ 4 by decide)) (ret := ?_) (hd := by first | decide | exact room1 (by assumption) (by decide) | ktr_room) (hu := by first | decide | exact units1 (by assumption) (by decide) | ktr_units)
        intro tl8 C8 cs8 k8 h9 tk9 _ m8 i8 F11 N11
        (try clear NZ1)
        (try dsimp only)
        repeat' ((fail_if_success (first | (with_reducible refine stop_gm ?_) | (with_reducible refine stop_ife ?_) | (with_reducible refine stop_ct ?_) | (with_reducible show wpAny _ _ (setItem (Value.ref _) (Value.ref _) _) _ _ _) | (with_reducible show wpAny _ _ (subscriptTail _ (Expr.Tuple _ _ _) (Value.ref _) (Value.ref _)) _ _ _) | (with_reducible refine stop_ref ?_) | (with_reducible refine stop_lc ?_) | (with_reducible refine stop_alc ?_) | (with_reducible refine stop_zip ?_) | (with_reducible show IterE1 _ _ _ _ _ _ _ _ _ _ _ _ _ _ _) | (with_reducible show IterA1 _ _ _ _ _ _ _ _ _ _ _ _ _ _ _ _) | (with_reducible show CompOut _ _ _ _ _ _ _ _ _) | (with_reducible show IterF _ _ _ _ _ _ _ _ _ _ _) | (with_reducible show ForOut _ _ _ _ _ _ _ _ _))); first | (k_unfold; (try dsimp only)) | ((with_reducible refine for_shape ?_); k_dflt (refine ForF (hs := by intro _; rfl) (by k_asm) (by rfl) (by rfl) (by assumption) ?_)) | ((with_reducible refine fort_shape ?_); k_dflt (refine ForF2 (hs := by intro _; rfl) (by k_asm) (by assumption) ?_)) | ((with_reducible refine item_shape ?_); k_dflt (refine item_at (hs := by with_unfolding_all rfl) (by k_asm) (by k_mem) (by assumption) (by first | (with_reducible exact Int.natCast_nonneg _) | (with_reducible assumption) | decide | lia) (by first | (with_reducible assumption) | decide | lia) ?_)) | ((with_reducible refine for_shape ?_); k_dflt (refine ForF (hs := by intro _; rfl) (by k_asm) (by rfl) (by rfl) (by with_unfolding_all passes_own) ?_)) | ((with_reducible show wpAny _ _ (call (Value.builtin "len") [Value.ref _]) _ _ _); k_dflt (refine kst_len (by k_asm) (by k_mem) (by first | assumption | rfl) (by lia) ?_)) | ((with_reducible refine floordiv_int ?kbe ?_ (Or.inl (PyProof.noPylong_of_log2 ?kbp))); (case kbe => first | assumption | lia); (case kbp => assumption)) | walk1 | (dsimp only; walk1) | (leave1; (try dsimp only)) | fail "no step")
        refine Tell.goI (N := by k_asm) (B := by k_asm) (F := by k_asm) (X := by k_asm) (T := by k_asm) (hk := by first | exact rfl | assumption) (C := t_number _ _ _ _ _ (cutM GM (but1 p.2)) 3 10 ((TR ms : Nat) : Int) C8 k8 cs8 (List.mem_append_left _ m8) (i8.mono fun p hp => List.mem_append_left _ hp) (by decide) ((cutM_len ..).trans hP.l1) (fun zs hzs => (cutM_wide zs hzs).trans hP.l1) (by decide) (cutM_bits hS) (by decide) (by decide) hP.d3 (lt9 hb1.2)) (ret := ?_) (hd := by first | decide | exact room1 (by assumption) (by decide) | ktr_room) (hu := by first | decide | exact units1 (by assumption) (by decide) | ktr_units)
        intro t12 h10 tk10 F12 N12
        (try dsimp only)
        repeat' ((fail_if_success (first | (with_reducible refine stop_gm ?_) | (with_reducible refine stop_ife ?_) | (with_reducible refine stop_ct ?_) | (with_reducible show wpAny _ _ (setItem (Value.ref _) (Value.ref _) _) _ _ _) | (with_reducible show wpAny _ _ (subscriptTail _ (Expr.Tuple _ _ _) (Value.ref _) (Value.ref _)) _ _ _) | (with_reducible refine stop_ref ?_) | (with_reducible refine stop_lc ?_) | (with_reducible refine stop_alc ?_) | (with_reducible refine stop_zip ?_) | (with_reducible show IterE1 _ _ _ _ _ _ _ _ _ _ _ _ _ _ _) | (with_reducible show IterA1 _ _ _ _ _ _ _ _ _ _ _ _ _ _ _ _) | (with_reducible show CompOut _ _ _ _ _ _ _ _ _) | (with_reducible show IterF _ _ _ _ _ _ _ _ _ _ _) | (with_reducible show ForOut _ _ _ _ _ _ _ _ _))); first | (k_unfold; (try dsimp only)) | ((with_reducible refine for_shape ?_); k_dflt (refine ForF (hs := by intro _; rfl) (by k_asm) (by rfl) (by rfl) (by assumption) ?_)) | ((with_reducible refine fort_shape ?_); k_dflt (refine ForF2 (hs := by intro _; rfl) (by k_asm) (by assumption) ?_)) | ((with_reducible refine item_shape ?_); k_dflt (refine item_at (hs := by with_unfolding_all rfl) (by k_asm) (by k_mem) (by assumption) (by first | (with_reducible exact Int.natCast_nonneg _) | (with_reducible assumption) | decide | lia) (by first | (with_reducible assumption) | decide | lia) ?_)) | ((with_reducible refine for_shape ?_); k_dflt (refine ForF (hs := by intro _; rfl) (by k_asm) (by rfl) (by rfl) (by with_unfolding_all passes_own) ?_)) | ((with_reducible show wpAny _ _ (call (Value.builtin "len") [Value.ref _]) _ _ _); k_dflt (refine kst_len (by k_asm) (by k_mem) (by first | assumption | rfl) (by lia) ?_)) | ((with_reducible refine floordiv_int ?kbe ?_ (Or.inl (PyProof.noPylong_of_log2 ?kbp))); (case kbe => first | assumption | lia); (case kbp => assumption)) | walk1 | (dsimp only; walk1) | (leave1; (try dsimp only)) | fail "no step")
        rename_i hY Z2 hZ2 FZ2 NZ2 lZ2
        have NZ3 := News.drop (news := (Z2, W.listOf #[Value.int p.1 ta, Value.int p.2 ua] 0) :: L2) NZ2 (fun q hq => by
          rcases List.mem_cons.mp hq with rfl | hq
          · exact List.mem_cons_self
          · exact List.mem_cons_of_mem _ (List.mem_append_right _ (List.mem_cons_of_mem _ hq)))
        clear NZ2 lZ2
        refine Tell.goM (N := by k_asm) (B := by k_asm) (F := by k_asm) (X := by k_asm) (T := by k_asm) (hk := by first | exact rfl | assumption) (C := t_cut _ _ _ _ _ GM R Z2 kR _ rs _ [p.1, p.2] (List.mem_cons_of_mem _ mR2) (hR2.mono fun _ h => List.mem_cons_of_mem _ h) hF.1 hF.2 List.mem_cons_self (.cons (.cons .nil)) (show 2 ≤ 4 by decide)) (ret := ?_) (hd := by first | decide | exact room1 (by assumption) (by decide) | ktr_room) (hu := by first | decide | exact units1 (by assumption) (by decide) | ktr_units)
        intro tl9 C9 cs9 k9 h11 tk11 _ m9 i9 F13 N13
        (try clear NZ3)
        (try dsimp only)
        repeat' ((fail_if_success (first | (with_reducible refine stop_gm ?_) | (with_reducible refine stop_ife ?_) | (with_reducible refine stop_ct ?_) | (with_reducible show wpAny _ _ (setItem (Value.ref _) (Value.ref _) _) _ _ _) | (with_reducible show wpAny _ _ (subscriptTail _ (Expr.Tuple _ _ _) (Value.ref _) (Value.ref _)) _ _ _) | (with_reducible refine stop_ref ?_) | (with_reducible refine stop_lc ?_) | (with_reducible refine stop_alc ?_) | (with_reducible refine stop_zip ?_) | (with_reducible show IterE1 _ _ _ _ _ _ _ _ _ _ _ _ _ _ _) | (with_reducible show IterA1 _ _ _ _ _ _ _ _ _ _ _ _ _ _ _ _) | (with_reducible show CompOut _ _ _ _ _ _ _ _ _) | (with_reducible show IterF _ _ _ _ _ _ _ _ _ _ _) | (with_reducible show ForOut _ _ _ _ _ _ _ _ _))); first | (k_unfold; (try dsimp only)) | ((with_reducible refine for_shape ?_); k_dflt (refine ForF (hs := by intro _; rfl) (by k_asm) (by rfl) (by rfl) (by assumption) ?_)) | ((with_reducible refine fort_shape ?_); k_dflt (refine ForF2 (hs := by intro _; rfl) (by k_asm) (by assumption) ?_)) | ((with_reducible refine item_shape ?_); k_dflt (refine item_at (hs := by with_unfolding_all rfl) (by k_asm) (by k_mem) (by assumption) (by first | (with_reducible exact Int.natCast_nonneg _) | (with_reducible assumption) | decide | lia) (by first | (with_reducible assumption) | decide | lia) ?_)) | ((with_reducible refine for_shape ?_); k_dflt (refine ForF (hs := by intro _; rfl) (by k_asm) (by rfl) (by rfl) (by with_unfolding_all passes_own) ?_)) | ((with_reducible show wpAny _ _ (call (Value.builtin "len") [Value.ref _]) _ _ _); k_dflt (refine kst_len (by k_asm) (by k_mem) (by first | assumption | rfl) (by lia) ?_)) | ((with_reducible refine floordiv_int ?kbe ?_ (Or.inl (PyProof.noPylong_of_log2 ?kbp))); (case kbe => first | assumption | lia); (case kbp => assumption)) | walk1 | (dsimp only; walk1) | (leave1; (try dsimp only)) | fail "no step")
        refine Tell.goI (N := by k_asm) (B := by k_asm) (F := by k_asm) (X := by k_asm) (T := by k_asm) (hk := by first | exact rfl | assumption) (C := t_number _ _ _ _ _ (cutM GM (but2 p.1 p.2)) 2 10 ((PT ms j : Nat) : Int) C9 k9 cs9 (List.mem_append_left _ m9) (i9.mono fun p hp => List.mem_append_left _ hp) (by decide) ((cutM_len ..).trans hP.l2) (fun zs hzs => (cutM_wide zs hzs).trans hP.l2) (by decide) (cutM_bits hS) (by decide) (by decide) hP.d2 (lt9 hb2.2)) (ret := ?_) (hd := by first | decide | exact room1 (by assumption) (by decide) | ktr_room) (hu := by first | decide | exact units1 (by assumption) (by decide) | ktr_units)
        intro t14 h12 tk12 F14 N14
        (try dsimp only)
        repeat' ((fail_if_success (first | (with_reducible refine stop_gm ?_) | (with_reducible refine stop_ife ?_) | (with_reducible refine stop_ct ?_) | (with_reducible show wpAny _ _ (setItem (Value.ref _) (Value.ref _) _) _ _ _) | (with_reducible show wpAny _ _ (subscriptTail _ (Expr.Tuple _ _ _) (Value.ref _) (Value.ref _)) _ _ _) | (with_reducible refine stop_ref ?_) | (with_reducible refine stop_lc ?_) | (with_reducible refine stop_alc ?_) | (with_reducible refine stop_zip ?_) | (with_reducible show IterE1 _ _ _ _ _ _ _ _ _ _ _ _ _ _ _) | (with_reducible show IterA1 _ _ _ _ _ _ _ _ _ _ _ _ _ _ _ _) | (with_reducible show CompOut _ _ _ _ _ _ _ _ _) | (with_reducible show IterF _ _ _ _ _ _ _ _ _ _ _) | (with_reducible show ForOut _ _ _ _ _ _ _ _ _))); first | (k_unfold; (try dsimp only)) | ((with_reducible refine for_shape ?_); k_dflt (refine ForF (hs := by intro _; rfl) (by k_asm) (by rfl) (by rfl) (by assumption) ?_)) | ((with_reducible refine fort_shape ?_); k_dflt (refine ForF2 (hs := by intro _; rfl) (by k_asm) (by assumption) ?_)) | ((with_reducible refine item_shape ?_); k_dflt (refine item_at (hs := by with_unfolding_all rfl) (by k_asm) (by k_mem) (by assumption) (by first | (with_reducible exact Int.natCast_nonneg _) | (with_reducible assumption) | decide | lia) (by first | (with_reducible assumption) | decide | lia) ?_)) | ((with_reducible refine for_shape ?_); k_dflt (refine ForF (hs := by intro _; rfl) (by k_asm) (by rfl) (by rfl) (by with_unfolding_all passes_own) ?_)) | ((with_reducible show wpAny _ _ (call (Value.builtin "len") [Value.ref _]) _ _ _); k_dflt (refine kst_len (by k_asm) (by k_mem) (by first | assumption | rfl) (by lia) ?_)) | ((with_reducible refine floordiv_int ?kbe ?_ (Or.inl (PyProof.noPylong_of_log2 ?kbp))); (case kbe => first | assumption | lia); (case kbp => assumption)) | walk1 | (dsimp only; walk1) | (leave1; (try dsimp only)) | fail "no step")
        exact forOut_same (by k_asm) (by k_asm) (fun q hq => List.mem_append_right _ (List.mem_cons_of_mem _ (by rw [← hL2]; exact hq))) ⟨rfl, by with_unfolding_all rfl, by with_unfolding_all rfl, by with_unfolding_all rfl, ⟨_, by rw [← sumTo_more]; with_unfolding_all rfl⟩, _, _, by with_unfolding_all rfl, .inr rfl⟩
      · rename_i hno
        have hz0 : ms.getD j 0 = 0 := by lia
        have hj0 : j ≠ 0 := fun e => by
          have := hL.l0
          rw [e] at hz0
          lia
        exact forOut_same (by k_asm) (by k_asm) (fun q hq => by rw [← hL2]; exact hq) ⟨rfl, by with_unfolding_all rfl, by with_unfolding_all rfl, by with_unfolding_all rfl, ⟨_, by rw [sumTo_same hz0]; with_unfolding_all rfl⟩, _, _, by with_unfolding_all rfl, .inr (c6.resolve_left hj0)⟩
    · intro h5 tk5 m₃ led₁ hJ2 F6 N6
      refine hide fun H9 hH9 => ?_
      obtain ⟨rfl, c1, c2, c3, ⟨tt, c4⟩, tr, tv, c5, c6⟩ := hJ2
      rw [hes, show pairs6.length = 6 from rfl] at c4 c6
      rw [hL.foster] at c4
      have c7 : tr = ((TR ms : Nat) : Int) := c6.resolve_left (by decide)
      subst c7
      have F7 := fr_known5 F6 (a := Str.ofString "grid") (b := Str.ofString "lines") (c := Str.ofString "bag") (d := Str.ofString "total") (e := Str.ofString "trees") c1 c2 c3 c4 c5
      have hb1 := hL.tr
      refine hH9 ?_
      clear hH9 H9 F6
      (try clear F5); (try clear N5)
      repeat' ((fail_if_success (first | (with_reducible refine stop_gm ?_) | (with_reducible refine stop_ife ?_) | (with_reducible refine stop_ct ?_) | (with_reducible show wpAny _ _ (setItem (Value.ref _) (Value.ref _) _) _ _ _) | (with_reducible show wpAny _ _ (subscriptTail _ (Expr.Tuple _ _ _) (Value.ref _) (Value.ref _)) _ _ _) | (with_reducible refine stop_ref ?_) | (with_reducible refine stop_lc ?_) | (with_reducible refine stop_alc ?_) | (with_reducible refine stop_zip ?_) | (with_reducible show IterE1 _ _ _ _ _ _ _ _ _ _ _ _ _ _ _) | (with_reducible show IterA1 _ _ _ _ _ _ _ _ _ _ _ _ _ _ _ _) | (with_reducible show CompOut _ _ _ _ _ _ _ _ _) | (with_reducible show IterF _ _ _ _ _ _ _ _ _ _ _) | (with_reducible show ForOut _ _ _ _ _ _ _ _ _))); first | (k_unfold; (try dsimp only)) | ((with_reducible refine for_shape ?_); k_dflt (refine ForF (hs := by intro _; rfl) (by k_asm) (by rfl) (by rfl) (by assumption) ?_)) | ((with_reducible refine fort_shape ?_); k_dflt (refine ForF2 (hs := by intro _; rfl) (by k_asm) (by assumption) ?_)) | ((with_reducible refine item_shape ?_); k_dflt (refine item_at (hs := by with_unfolding_all rfl) (by k_asm) (by k_mem) (by assumption) (by first | (with_reducible exact Int.natCast_nonneg _) | (with_reducible assumption) | decide | lia) (by first | (with_reducible assumption) | decide | lia) ?_)) | ((with_reducible refine for_shape ?_); k_dflt (refine ForF (hs := by intro _; rfl) (by k_asm) (by rfl) (by rfl) (by with_unfolding_all passes_own) ?_)) | ((with_reducible show wpAny _ _ (call (Value.builtin "len") [Value.ref _]) _ _ _); k_dflt (refine kst_len (by k_asm) (by k_mem) (by first | assumption | rfl) (by lia) ?_)) | ((with_reducible refine floordiv_int ?kbe ?_ (Or.inl (PyProof.noPylong_of_log2 ?kbp))); (case kbe => first | assumption | lia); (case kbp => assumption)) | walk1 | (dsimp only; walk1) | (leave1; (try dsimp only)) | fail "no step")
      · exfalso; lia
      have NA := News.drop N6 fun q hq => List.mem_cons_of_mem _ hq
      refine Tell.goDraw (B := by k_asm) (F := by k_asm) (X := by k_asm) (T := by k_asm) (hk := by first | exact rfl | assumption) (N := NA) (C := t_draw _ _ _ _ RL P Y kk1 0 ws _ 6 3 t1 _ mY (Ints.ofAre hIs) (own_just hoP) (List.length_take_le 8 _) (by decide) (by decide)) (ret := ?_) (hd := by first | decide | exact room1 (by assumption) (by decide) | ktr_room) (hu := by first | decide | exact units1 (by assumption) (by decide) | ktr_units)
      intro o tv1 tb1 kb1 h6 tk6 ho F8 N8
      (try dsimp only)
      (try clear F7); (try clear N6); (try clear NA)
      repeat' ((fail_if_success (first | (with_reducible refine stop_gm ?_) | (with_reducible refine stop_ife ?_) | (with_reducible refine stop_ct ?_) | (with_reducible show wpAny _ _ (setItem (Value.ref _) (Value.ref _) _) _ _ _) | (with_reducible show wpAny _ _ (subscriptTail _ (Expr.Tuple _ _ _) (Value.ref _) (Value.ref _)) _ _ _) | (with_reducible refine stop_ref ?_) | (with_reducible refine stop_lc ?_) | (with_reducible refine stop_alc ?_) | (with_reducible refine stop_zip ?_) | (with_reducible show IterE1 _ _ _ _ _ _ _ _ _ _ _ _ _ _ _) | (with_reducible show IterA1 _ _ _ _ _ _ _ _ _ _ _ _ _ _ _ _) | (with_reducible show CompOut _ _ _ _ _ _ _ _ _) | (with_reducible show IterF _ _ _ _ _ _ _ _ _ _ _) | (with_reducible show ForOut _ _ _ _ _ _ _ _ _))); first | (k_unfold; (try dsimp only)) | ((with_reducible refine for_shape ?_); k_dflt (refine ForF (hs := by intro _; rfl) (by k_asm) (by rfl) (by rfl) (by assumption) ?_)) | ((with_reducible refine fort_shape ?_); k_dflt (refine ForF2 (hs := by intro _; rfl) (by k_asm) (by assumption) ?_)) | ((with_reducible refine item_shape ?_); k_dflt (refine item_at (hs := by with_unfolding_all rfl) (by k_asm) (by k_mem) (by assumption) (by first | (with_reducible exact Int.natCast_nonneg _) | (with_reducible assumption) | decide | lia) (by first | (with_reducible assumption) | decide | lia) ?_)) | ((with_reducible refine for_shape ?_); k_dflt (refine ForF (hs := by intro _; rfl) (by k_asm) (by rfl) (by rfl) (by with_unfolding_all passes_own) ?_)) | ((with_reducible show wpAny _ _ (call (Value.builtin "len") [Value.ref _]) _ _ _); k_dflt (refine kst_len (by k_asm) (by k_mem) (by first | assumption | rfl) (by lia) ?_)) | ((with_reducible refine floordiv_int ?kbe ?_ (Or.inl (PyProof.noPylong_of_log2 ?kbp))); (case kbe => first | assumption | lia); (case kbp => assumption)) | walk1 | (dsimp only; walk1) | (leave1; (try dsimp only)) | fail "no step")
      refine Tell.goDraw (B := by k_asm) (F := by k_asm) (X := by k_asm) (T := by k_asm) (hk := by first | exact rfl | assumption) (N := by k_asm) (C := t_draw _ _ _ _ RL P Y kb1 0 ws _ 7 (3 - (o : Int)) tb1 _ mY (Ints.ofAre hIs) (own_just hoP) (List.length_take_le 8 _) (by decide) (below3 ho)) (ret := ?_) (hd := by first | decide | exact room1 (by assumption) (by decide) | ktr_room) (hu := by first | decide | exact units1 (by assumption) (by decide) | ktr_units)
      intro e tv2 tb2 kb2 h7 tk7 he F9 N9
      (try dsimp only)
      have ho4 : o < 4 := Nat.lt_succ_of_lt (Int.ofNat_lt.mp ho)
      have he4 : e < 3 - o := Nat.lt_sub_of_add_lt (Int.ofNat_lt.mp (Int.add_lt_of_lt_sub_right he))
      have hp := off6_pair o ho4 e he4
      have hj6 : off6 o + e < 6 := (List.getElem?_eq_some_iff.mp hp).1
      have hP : PairOk (gridTo (intL ms) 6) (o : Int) ((o : Int) + 1 + (e : Int)) (PT ms (off6 o + e)) (TR ms) := hL.pair hp
      have hF := four_grid (intL ms) 6
      have hS := hL.small
      have hb2 := hL.pt hj6
      repeat' ((fail_if_success (first | (with_reducible refine stop_gm ?_) | (with_reducible refine stop_ife ?_) | (with_reducible refine stop_ct ?_) | (with_reducible show wpAny _ _ (setItem (Value.ref _) (Value.ref _) _) _ _ _) | (with_reducible show wpAny _ _ (subscriptTail _ (Expr.Tuple _ _ _) (Value.ref _) (Value.ref _)) _ _ _) | (with_reducible refine stop_ref ?_) | (with_reducible refine stop_lc ?_) | (with_reducible refine stop_alc ?_) | (with_reducible refine stop_zip ?_) | (with_reducible show IterE1 _ _ _ _ _ _ _ _ _ _ _ _ _ _ _) | (with_reducible show IterA1 _ _ _ _ _ _ _ _ _ _ _ _ _ _ _ _) | (with_reducible show CompOut _ _ _ _ _ _ _ _ _) | (with_reducible show IterF _ _ _ _ _ _ _ _ _ _ _) | (with_reducible show ForOut _ _ _ _ _ _ _ _ _))); first | (k_unfold; (try dsimp only)) | ((with_reducible refine for_shape ?_); k_dflt (refine ForF (hs := by intro _; rfl) (by k_asm) (by rfl) (by rfl) (by assumption) ?_)) | ((with_reducible refine fort_shape ?_); k_dflt (refine ForF2 (hs := by intro _; rfl) (by k_asm) (by assumption) ?_)) | ((with_reducible refine item_shape ?_); k_dflt (refine item_at (hs := by with_unfolding_all rfl) (by k_asm) (by k_mem) (by assumption) (by first | (with_reducible exact Int.natCast_nonneg _) | (with_reducible assumption) | decide | lia) (by first | (with_reducible assumption) | decide | lia) ?_)) | ((with_reducible refine for_shape ?_); k_dflt (refine ForF (hs := by intro _; rfl) (by k_asm) (by rfl) (by rfl) (by with_unfolding_all passes_own) ?_)) | ((with_reducible show wpAny _ _ (call (Value.builtin "len") [Value.ref _]) _ _ _); k_dflt (refine kst_len (by k_asm) (by k_mem) (by first | assumption | rfl) (by lia) ?_)) | ((with_reducible refine floordiv_int ?kbe ?_ (Or.inl (PyProof.noPylong_of_log2 ?kbp))); (case kbe => first | assumption | lia); (case kbp => assumption)) | walk1 | (dsimp only; walk1) | (leave1; (try dsimp only)) | fail "no step")
      refine Tell.goQ (N := by k_asm) (B := by k_asm) (F := by k_asm) (X := by k_asm) (T := by k_asm) (hk := by first | exact rfl | assumption) (C := t_resist _ _ _ _ _ (gridTo (intL ms) 6) R kR rs (List.mem_cons_of_mem _ mR') (hR'.mono fun _ h => List.mem_cons_of_mem _ h) hF.1 hF.2 hS (o : Int) ((o : Int) + 1 + (e : Int)) _ _ _ _ hP.l1 hP.l2 hP.d2 (lt9 hb2.2) hP.d3 (lt9 hb1.2) (ne0 hb1.1)) (ret := ?_) (hd := by first | decide | exact room1 (by assumption) (by decide) | ktr_room) (hu := by first | decide | exact units1 (by assumption) (by decide) | ktr_units)
      intro xq tq uq h8 tk8 lq F10 N10
      (try dsimp only)
      repeat' ((fail_if_success (first | (with_reducible refine stop_gm ?_) | (with_reducible refine stop_ife ?_) | (with_reducible refine stop_ct ?_) | (with_reducible show wpAny _ _ (setItem (Value.ref _) (Value.ref _) _) _ _ _) | (with_reducible show wpAny _ _ (subscriptTail _ (Expr.Tuple _ _ _) (Value.ref _) (Value.ref _)) _ _ _) | (with_reducible refine stop_ref ?_) | (with_reducible refine stop_lc ?_) | (with_reducible refine stop_alc ?_) | (with_reducible refine stop_zip ?_) | (with_reducible show IterE1 _ _ _ _ _ _ _ _ _ _ _ _ _ _ _) | (with_reducible show IterA1 _ _ _ _ _ _ _ _ _ _ _ _ _ _ _ _) | (with_reducible show CompOut _ _ _ _ _ _ _ _ _) | (with_reducible show IterF _ _ _ _ _ _ _ _ _ _ _) | (with_reducible show ForOut _ _ _ _ _ _ _ _ _))); first | (k_unfold; (try dsimp only)) | ((with_reducible refine for_shape ?_); k_dflt (refine ForF (hs := by intro _; rfl) (by k_asm) (by rfl) (by rfl) (by assumption) ?_)) | ((with_reducible refine fort_shape ?_); k_dflt (refine ForF2 (hs := by intro _; rfl) (by k_asm) (by assumption) ?_)) | ((with_reducible refine item_shape ?_); k_dflt (refine item_at (hs := by with_unfolding_all rfl) (by k_asm) (by k_mem) (by assumption) (by first | (with_reducible exact Int.natCast_nonneg _) | (with_reducible assumption) | decide | lia) (by first | (with_reducible assumption) | decide | lia) ?_)) | ((with_reducible refine for_shape ?_); k_dflt (refine ForF (hs := by intro _; rfl) (by k_asm) (by rfl) (by rfl) (by with_unfolding_all passes_own) ?_)) | ((with_reducible show wpAny _ _ (call (Value.builtin "len") [Value.ref _]) _ _ _); k_dflt (refine kst_len (by k_asm) (by k_mem) (by first | assumption | rfl) (by lia) ?_)) | ((with_reducible refine floordiv_int ?kbe ?_ (Or.inl (PyProof.noPylong_of_log2 ?kbp))); (case kbe => first | assumption | lia); (case kbp => assumption)) | walk1 | (dsimp only; walk1) | (leave1; (try dsimp only)) | fail "no step")
      rename_i hm3 hm2 hm1 FM NM hmK FK NK hkK nK
      have NK2 := News.drop (news := (hm1.objs.size, { cls := .type "tuple", data := .seq #[.int (o : Int) tv1, .int ((o : Int) + 1 + (e : Int)) tk7] }) :: RL) NK fun q hq => by
        rcases List.mem_cons.mp hq with rfl | hq
        · exact List.mem_cons_self
        · exact List.mem_cons_of_mem _ (List.mem_cons_of_mem _ (List.mem_cons_of_mem _ hq))
      clear FM NM hkK nK NK
      refine lines_get (hs := by with_unfolding_all rfl) (hg := by intro _; with_unfolding_all rfl) (w := _) (p := ((o : Int), (o : Int) + 1 + (e : Int))) (i := off6 o + e) (by first | ktr_units | units_room) NK2 (List.mem_cons_of_mem _ mD) (hl7.mono fun q hq _ => List.mem_cons_of_mem _ hq) List.mem_cons_self hp (intL_at (by rw [hL.len]; exact hj6)) ?_
      intro v9 tk9
      (try dsimp only)
      repeat' ((fail_if_success (first | (with_reducible refine stop_gm ?_) | (with_reducible refine stop_ife ?_) | (with_reducible refine stop_ct ?_) | (with_reducible show wpAny _ _ (setItem (Value.ref _) (Value.ref _) _) _ _ _) | (with_reducible show wpAny _ _ (subscriptTail _ (Expr.Tuple _ _ _) (Value.ref _) (Value.ref _)) _ _ _) | (with_reducible refine stop_ref ?_) | (with_reducible refine stop_lc ?_) | (with_reducible refine stop_alc ?_) | (with_reducible refine stop_zip ?_) | (with_reducible show IterE1 _ _ _ _ _ _ _ _ _ _ _ _ _ _ _) | (with_reducible show IterA1 _ _ _ _ _ _ _ _ _ _ _ _ _ _ _ _) | (with_reducible show CompOut _ _ _ _ _ _ _ _ _) | (with_reducible show IterF _ _ _ _ _ _ _ _ _ _ _) | (with_reducible show ForOut _ _ _ _ _ _ _ _ _))); first | (k_unfold; (try dsimp only)) | ((with_reducible refine for_shape ?_); k_dflt (refine ForF (hs := by intro _; rfl) (by k_asm) (by rfl) (by rfl) (by assumption) ?_)) | ((with_reducible refine fort_shape ?_); k_dflt (refine ForF2 (hs := by intro _; rfl) (by k_asm) (by assumption) ?_)) | ((with_reducible refine item_shape ?_); k_dflt (refine item_at (hs := by with_unfolding_all rfl) (by k_asm) (by k_mem) (by assumption) (by first | (with_reducible exact Int.natCast_nonneg _) | (with_reducible assumption) | decide | lia) (by first | (with_reducible assumption) | decide | lia) ?_)) | ((with_reducible refine for_shape ?_); k_dflt (refine ForF (hs := by intro _; rfl) (by k_asm) (by rfl) (by rfl) (by with_unfolding_all passes_own) ?_)) | ((with_reducible show wpAny _ _ (call (Value.builtin "len") [Value.ref _]) _ _ _); k_dflt (refine kst_len (by k_asm) (by k_mem) (by first | assumption | rfl) (by lia) ?_)) | ((with_reducible refine floordiv_int ?kbe ?_ (Or.inl (PyProof.noPylong_of_log2 ?kbp))); (case kbe => first | assumption | lia); (case kbp => assumption)) | walk1 | (dsimp only; walk1) | (leave1; (try dsimp only)) | fail "no step")
      rename_i FP NP hmP FQ NQ hkQ nQ
      have hlK : ∀ q ∈ RL, q.1 < hmK.objs.size := fun q hq => Heap.lt_size (NP q (List.mem_cons_of_mem _ hq)).1
      have hdn := dict_ne (led := RL) (fun q hq => NP q (List.mem_cons_of_mem _ hq)) mD hl7.2.1
      clear FP NP hkQ nQ
      refine lines_old (w := _) (p := ((o : Int), (o : Int) + 1 + (e : Int))) (i := off6 o + e) (od := od1) (ps := pairs6) (zs := intL ms) (rest := (hmK.objs.size, { cls := .type "tuple", data := .seq #[.int (o : Int) tv1, .int ((o : Int) + 1 + (e : Int)) tk7] }) :: RL.filter fun q => q.1 != d) (by first | ktr_units | units_room) FQ NQ (List.mem_cons_of_mem _ (List.mem_cons_of_mem _ mD)) (hl7.mono fun q hq hc => List.mem_cons_of_mem _ (List.mem_filter.mpr ⟨hq, by simpa using hdn q hq hc⟩)) List.mem_cons_self hp (by decide) (fun q hq => ?_) ?_
      · rcases List.mem_cons.mp hq with rfl | hq
        · exact ⟨List.mem_cons_self, Ne.symm (Nat.ne_of_lt (hlK _ mD))⟩
        · have := List.mem_filter.mp hq
          exact ⟨List.mem_cons_of_mem _ (List.mem_cons_of_mem _ this.1), by simpa using this.2⟩
      intro od3 h9 tk10 F11 N11 hl9
      generalize hRM : (hmK.objs.size, ({ cls := .type "tuple", data := .seq #[.int (o : Int) tv1, .int ((o : Int) + 1 + (e : Int)) tk7] } : Obj)) :: RL.filter (fun q => q.1 != d) = RM at *
      have hs9 : (intL ms).set (off6 o + e) (((ms.getD (off6 o + e) 0 : Nat) : Int) + 1) = intL (ms.set (off6 o + e) (ms.getD (off6 o + e) 0 + 1)) := (intL_set ..).symm
      have hl10 := hl9
      rw [hs9] at hl10
      have hL2 := hL.moreOk hok6.2.1 hj6
      have hP2 : PairOk (gridTo (intL (ms.set (off6 o + e) (ms.getD (off6 o + e) 0 + 1))) 6) (o : Int) ((o : Int) + 1 + (e : Int)) _ _ := hL2.pair hp
      have hq2 := last_eq hL hj6
      obtain ⟨hn2, hbt2⟩ := last_bits hL hj6
      have hS2 := hL2.small
      have hc1 := hL2.tr
      have hc2 := hL2.pt hj6
      generalize ms.set (off6 o + e) (ms.getD (off6 o + e) 0 + 1) = ms2 at *
      clear FQ NQ hl9 hs9 hS hP
      (try dsimp only)
      repeat' ((fail_if_success (first | (with_reducible refine stop_gm ?_) | (with_reducible refine stop_ife ?_) | (with_reducible refine stop_ct ?_) | (with_reducible show wpAny _ _ (setItem (Value.ref _) (Value.ref _) _) _ _ _) | (with_reducible show wpAny _ _ (subscriptTail _ (Expr.Tuple _ _ _) (Value.ref _) (Value.ref _)) _ _ _) | (with_reducible refine stop_ref ?_) | (with_reducible refine stop_lc ?_) | (with_reducible refine stop_alc ?_) | (with_reducible refine stop_zip ?_) | (with_reducible show IterE1 _ _ _ _ _ _ _ _ _ _ _ _ _ _ _) | (with_reducible show IterA1 _ _ _ _ _ _ _ _ _ _ _ _ _ _ _ _) | (with_reducible show CompOut _ _ _ _ _ _ _ _ _) | (with_reducible show IterF _ _ _ _ _ _ _ _ _ _ _) | (with_reducible show ForOut _ _ _ _ _ _ _ _ _))); first | (k_unfold; (try dsimp only)) | ((with_reducible refine for_shape ?_); k_dflt (refine ForF (hs := by intro _; rfl) (by k_asm) (by rfl) (by rfl) (by assumption) ?_)) | ((with_reducible refine fort_shape ?_); k_dflt (refine ForF2 (hs := by intro _; rfl) (by k_asm) (by assumption) ?_)) | ((with_reducible refine item_shape ?_); k_dflt (refine item_at (hs := by with_unfolding_all rfl) (by k_asm) (by k_mem) (by assumption) (by first | (with_reducible exact Int.natCast_nonneg _) | (with_reducible assumption) | decide | lia) (by first | (with_reducible assumption) | decide | lia) ?_)) | ((with_reducible refine for_shape ?_); k_dflt (refine ForF (hs := by intro _; rfl) (by k_asm) (by rfl) (by rfl) (by with_unfolding_all passes_own) ?_)) | ((with_reducible show wpAny _ _ (call (Value.builtin "len") [Value.ref _]) _ _ _); k_dflt (refine kst_len (by k_asm) (by k_mem) (by first | assumption | rfl) (by lia) ?_)) | ((with_reducible refine floordiv_int ?kbe ?_ (Or.inl (PyProof.noPylong_of_log2 ?kbp))); (case kbe => first | assumption | lia); (case kbp => assumption)) | walk1 | (dsimp only; walk1) | (leave1; (try dsimp only)) | fail "no step")
      refine Tell.goG (N := by k_asm) (B := by k_asm) (F := by k_asm) (X := by k_asm) (T := by k_asm) (hk := by first | exact rfl | assumption) (C := t_grid _ _ _ _ _ d od3 (intL ms2) (by k_mem) (hl10.mono fun q hq _ => List.mem_cons_of_mem _ hq)) (ret := ?_) (hd := by first | decide | exact room1 (by assumption) (by decide) | ktr_room) (hu := by first | decide | exact units1 (by assumption) (by decide) | ktr_units)
      intro tlH R2 rs2 kR2 h10 tk11 _ mR3 hR3 _ F12 N12
      refine hide fun H9 hH9 => ?_
      have hF2 := four_grid (intL ms2) 6
      refine hH9 ?_
      clear hH9 H9
      (try dsimp only)
      repeat' ((fail_if_success (first | (with_reducible refine stop_gm ?_) | (with_reducible refine stop_ife ?_) | (with_reducible refine stop_ct ?_) | (with_reducible show wpAny _ _ (setItem (Value.ref _) (Value.ref _) _) _ _ _) | (with_reducible show wpAny _ _ (subscriptTail _ (Expr.Tuple _ _ _) (Value.ref _) (Value.ref _)) _ _ _) | (with_reducible refine stop_ref ?_) | (with_reducible refine stop_lc ?_) | (with_reducible refine stop_alc ?_) | (with_reducible refine stop_zip ?_) | (with_reducible show IterE1 _ _ _ _ _ _ _ _ _ _ _ _ _ _ _) | (with_reducible show IterA1 _ _ _ _ _ _ _ _ _ _ _ _ _ _ _ _) | (with_reducible show CompOut _ _ _ _ _ _ _ _ _) | (with_reducible show IterF _ _ _ _ _ _ _ _ _ _ _) | (with_reducible show ForOut _ _ _ _ _ _ _ _ _))); first | (k_unfold; (try dsimp only)) | ((with_reducible refine for_shape ?_); k_dflt (refine ForF (hs := by intro _; rfl) (by k_asm) (by rfl) (by rfl) (by assumption) ?_)) | ((with_reducible refine fort_shape ?_); k_dflt (refine ForF2 (hs := by intro _; rfl) (by k_asm) (by assumption) ?_)) | ((with_reducible refine item_shape ?_); k_dflt (refine item_at (hs := by with_unfolding_all rfl) (by k_asm) (by k_mem) (by assumption) (by first | (with_reducible exact Int.natCast_nonneg _) | (with_reducible assumption) | decide | lia) (by first | (with_reducible assumption) | decide | lia) ?_)) | ((with_reducible refine for_shape ?_); k_dflt (refine ForF (hs := by intro _; rfl) (by k_asm) (by rfl) (by rfl) (by with_unfolding_all passes_own) ?_)) | ((with_reducible show wpAny _ _ (call (Value.builtin "len") [Value.ref _]) _ _ _); k_dflt (refine kst_len (by k_asm) (by k_mem) (by first | assumption | rfl) (by lia) ?_)) | ((with_reducible refine floordiv_int ?kbe ?_ (Or.inl (PyProof.noPylong_of_log2 ?kbp))); (case kbe => first | assumption | lia); (case kbp => assumption)) | walk1 | (dsimp only; walk1) | (leave1; (try dsimp only)) | fail "no step")
      refine Tell.goQ (N := by k_asm) (B := by k_asm) (F := by k_asm) (X := by k_asm) (T := by k_asm) (hk := by first | exact rfl | assumption) (C := t_resist _ _ _ _ _ (gridTo (intL ms2) 6) R2 kR2 rs2 mR3 hR3 hF2.1 hF2.2 hS2 (o : Int) ((o : Int) + 1 + (e : Int)) _ _ _ _ hP2.l1 hP2.l2 hP2.d2 (lt9 hc2.2) hP2.d3 (lt9 hc1.2) (ne0 hc1.1)) (ret := ?_) (hd := by first | decide | exact room1 (by assumption) (by decide) | ktr_room) (hu := by first | decide | exact units1 (by assumption) (by decide) | ktr_units)
      intro x13 t13 u13 h13 tk13 l13 F13 N13
      rw [hq2] at N13
      (try dsimp only)
      repeat' ((fail_if_success (first | (with_reducible refine stop_gm ?_) | (with_reducible refine stop_ife ?_) | (with_reducible refine stop_ct ?_) | (with_reducible show wpAny _ _ (setItem (Value.ref _) (Value.ref _) _) _ _ _) | (with_reducible show wpAny _ _ (subscriptTail _ (Expr.Tuple _ _ _) (Value.ref _) (Value.ref _)) _ _ _) | (with_reducible refine stop_ref ?_) | (with_reducible refine stop_lc ?_) | (with_reducible refine stop_alc ?_) | (with_reducible refine stop_zip ?_) | (with_reducible show IterE1 _ _ _ _ _ _ _ _ _ _ _ _ _ _ _) | (with_reducible show IterA1 _ _ _ _ _ _ _ _ _ _ _ _ _ _ _ _) | (with_reducible show CompOut _ _ _ _ _ _ _ _ _) | (with_reducible show IterF _ _ _ _ _ _ _ _ _ _ _) | (with_reducible show ForOut _ _ _ _ _ _ _ _ _))); first | (k_unfold; (try dsimp only)) | ((with_reducible refine for_shape ?_); k_dflt (refine ForF (hs := by intro _; rfl) (by k_asm) (by rfl) (by rfl) (by assumption) ?_)) | ((with_reducible refine fort_shape ?_); k_dflt (refine ForF2 (hs := by intro _; rfl) (by k_asm) (by assumption) ?_)) | ((with_reducible refine item_shape ?_); k_dflt (refine item_at (hs := by with_unfolding_all rfl) (by k_asm) (by k_mem) (by assumption) (by first | (with_reducible exact Int.natCast_nonneg _) | (with_reducible assumption) | decide | lia) (by first | (with_reducible assumption) | decide | lia) ?_)) | ((with_reducible refine for_shape ?_); k_dflt (refine ForF (hs := by intro _; rfl) (by k_asm) (by rfl) (by rfl) (by with_unfolding_all passes_own) ?_)) | ((with_reducible show wpAny _ _ (call (Value.builtin "len") [Value.ref _]) _ _ _); k_dflt (refine kst_len (by k_asm) (by k_mem) (by first | assumption | rfl) (by lia) ?_)) | ((with_reducible refine floordiv_int ?kbe ?_ (Or.inl (PyProof.noPylong_of_log2 ?kbp))); (case kbe => first | assumption | lia); (case kbp => assumption)) | walk1 | (dsimp only; walk1) | (leave1; (try dsimp only)) | fail "no step")
      refine Tell.goQ (N := by k_asm) (B := by k_asm) (F := by k_asm) (X := by k_asm) (T := by k_asm) (hk := by first | exact rfl | assumption) (C := t_fraction _ _ _ _ _ _ _ _ _ hn2 hbt2) (ret := ?_) (hd := by first | decide | exact room1 (by assumption) (by decide) | ktr_room) (hu := by first | decide | exact units1 (by assumption) (by decide) | ktr_units)
      intro x14 t14 u14 h14 tk14 l14 F14 N14
      (try dsimp only)
      repeat' ((fail_if_success (first | (with_reducible refine stop_gm ?_) | (with_reducible refine stop_ife ?_) | (with_reducible refine stop_ct ?_) | (with_reducible show wpAny _ _ (setItem (Value.ref _) (Value.ref _) _) _ _ _) | (with_reducible show wpAny _ _ (subscriptTail _ (Expr.Tuple _ _ _) (Value.ref _) (Value.ref _)) _ _ _) | (with_reducible refine stop_ref ?_) | (with_reducible refine stop_lc ?_) | (with_reducible refine stop_alc ?_) | (with_reducible refine stop_zip ?_) | (with_reducible show IterE1 _ _ _ _ _ _ _ _ _ _ _ _ _ _ _) | (with_reducible show IterA1 _ _ _ _ _ _ _ _ _ _ _ _ _ _ _ _) | (with_reducible show CompOut _ _ _ _ _ _ _ _ _) | (with_reducible show IterF _ _ _ _ _ _ _ _ _ _ _) | (with_reducible show ForOut _ _ _ _ _ _ _ _ _))); first | (k_unfold; (try dsimp only)) | ((with_reducible refine for_shape ?_); k_dflt (refine ForF (hs := by intro _; rfl) (by k_asm) (by rfl) (by rfl) (by assumption) ?_)) | ((with_reducible refine fort_shape ?_); k_dflt (refine ForF2 (hs := by intro _; rfl) (by k_asm) (by assumption) ?_)) | ((with_reducible refine item_shape ?_); k_dflt (refine item_at (hs := by with_unfolding_all rfl) (by k_asm) (by k_mem) (by assumption) (by first | (with_reducible exact Int.natCast_nonneg _) | (with_reducible assumption) | decide | lia) (by first | (with_reducible assumption) | decide | lia) ?_)) | ((with_reducible refine for_shape ?_); k_dflt (refine ForF (hs := by intro _; rfl) (by k_asm) (by rfl) (by rfl) (by with_unfolding_all passes_own) ?_)) | ((with_reducible show wpAny _ _ (call (Value.builtin "len") [Value.ref _]) _ _ _); k_dflt (refine kst_len (by k_asm) (by k_mem) (by first | assumption | rfl) (by lia) ?_)) | ((with_reducible refine floordiv_int ?kbe ?_ (Or.inl (PyProof.noPylong_of_log2 ?kbp))); (case kbe => first | assumption | lia); (case kbp => assumption)) | walk1 | (dsimp only; walk1) | (leave1; (try dsimp only)) | fail "no step")
      refine eq_two (by k_asm) (List.mem_cons_of_mem _ List.mem_cons_self) List.mem_cons_self (by first | ktr_units | units_room) ?_
      (try dsimp only)
      repeat' ((fail_if_success (first | (with_reducible refine stop_gm ?_) | (with_reducible refine stop_ife ?_) | (with_reducible refine stop_ct ?_) | (with_reducible show wpAny _ _ (setItem (Value.ref _) (Value.ref _) _) _ _ _) | (with_reducible show wpAny _ _ (subscriptTail _ (Expr.Tuple _ _ _) (Value.ref _) (Value.ref _)) _ _ _) | (with_reducible refine stop_ref ?_) | (with_reducible refine stop_lc ?_) | (with_reducible refine stop_alc ?_) | (with_reducible refine stop_zip ?_) | (with_reducible show IterE1 _ _ _ _ _ _ _ _ _ _ _ _ _ _ _) | (with_reducible show IterA1 _ _ _ _ _ _ _ _ _ _ _ _ _ _ _ _) | (with_reducible show CompOut _ _ _ _ _ _ _ _ _) | (with_reducible show IterF _ _ _ _ _ _ _ _ _ _ _) | (with_reducible show ForOut _ _ _ _ _ _ _ _ _))); first | (k_unfold; (try dsimp only)) | ((with_reducible refine for_shape ?_); k_dflt (refine ForF (hs := by intro _; rfl) (by k_asm) (by rfl) (by rfl) (by assumption) ?_)) | ((with_reducible refine fort_shape ?_); k_dflt (refine ForF2 (hs := by intro _; rfl) (by k_asm) (by assumption) ?_)) | ((with_reducible refine item_shape ?_); k_dflt (refine item_at (hs := by with_unfolding_all rfl) (by k_asm) (by k_mem) (by assumption) (by first | (with_reducible exact Int.natCast_nonneg _) | (with_reducible assumption) | decide | lia) (by first | (with_reducible assumption) | decide | lia) ?_)) | ((with_reducible refine for_shape ?_); k_dflt (refine ForF (hs := by intro _; rfl) (by k_asm) (by rfl) (by rfl) (by with_unfolding_all passes_own) ?_)) | ((with_reducible show wpAny _ _ (call (Value.builtin "len") [Value.ref _]) _ _ _); k_dflt (refine kst_len (by k_asm) (by k_mem) (by first | assumption | rfl) (by lia) ?_)) | ((with_reducible refine floordiv_int ?kbe ?_ (Or.inl (PyProof.noPylong_of_log2 ?kbp))); (case kbe => first | assumption | lia); (case kbp => assumption)) | walk1 | (dsimp only; walk1) | (leave1; (try dsimp only)) | fail "no step")
      refine hQ0 _ _ ?_
      (try dsimp only)
      first
        | exact PySem.W.goodW_bool (by k_asm) (by assumption) (fun _ => rfl) (by rfl)
        | exact PySem.W.goodW_bool (by k_asm) (by assumption) (fun _ => by with_unfolding_all rfl) (by with_unfolding_all rfl)
        | walk1
end
end Mine
theorem PySem.Challenge.cw_xm0049_02_holds : PySem.Challenge.rw_xm0049_02.Holds := by
  exact Mine.fin1
