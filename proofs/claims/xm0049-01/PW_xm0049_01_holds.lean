import PyProof.Rows.All
import Wide.All
import OpenK.AllK
import Wide.FinOn
import KE.IntBitsLaws
import KE.LcTurns
import KE.KLcPair
import KE.KPairComp
import PyProof.ZipIter
import PyProof.WalksU
import PyProof.WalksMore
import PyProof.Rows.RangeIter
import KE.KTreeN
import PyProof.Rows.AccFoldV
import PyProof.ListIndex
import PyProof.Rows.StrTemp
import OpenK.KRaise
import KE.KItem
import KE.KTurns
import KE.KCat
import PySem.Challenge.RW_xm0049_01
set_option Elab.async false
set_option maxRecDepth 100000
noncomputable section
-- QLib
namespace Mine
open PySem PySem.Builtin.Int
theorem gcd_step (x y : Int) (hy : 0 < y) : Int.gcd y (x.fmod y) = Int.gcd x y := by
  rw [Int.fmod_eq_emod_of_nonneg _ (Int.le_of_lt hy)]
  have h : x = x % y + y * (x / y) := (Int.emod_add_mul_ediv x y).symm
  rw [Int.gcd_comm x y]
  conv => rhs; rw [h]
  simp
theorem gcd_abs (a b : Int) : Int.gcd (if a < 0 then -a else a) (if b < 0 then -b else b) = Int.gcd a b := by
  split <;> split <;> simp [Int.gcd_neg, Int.neg_gcd]

theorem gcd_turn {x y : Int} {g : Nat} (hy : 0 < y) (hx : 0 ≤ x) (hg : Int.gcd x y = g) : 0 ≤ y ∧ 0 ≤ x.fmod y ∧ Int.gcd y (x.fmod y) = g :=
  ⟨by omega, Int.fmod_nonneg_of_pos _ hy, by rw [gcd_step _ _ hy]; exact hg⟩
theorem gcd_start (a b : Int) : 0 ≤ (if a < 0 then -a else a) ∧ 0 ≤ (if b < 0 then -b else b) ∧ Int.gcd (if a < 0 then -a else a) (if b < 0 then -b else b) = Int.gcd a b :=
  ⟨by split <;> omega, by split <;> omega, gcd_abs a b⟩
theorem gcd_less {x y : Int} (hy : 0 < y) : (x.fmod y).toNat < y.toNat := by
  have := Int.fmod_lt_of_pos x hy
  omega
theorem gcd_end {x y : Int} {g : Nat} (hy : ¬ 0 < y) (hy' : 0 ≤ y) (hx : 0 ≤ x) (hg : Int.gcd x y = g) : x = (g : Int) := by
  have : y = 0 := by omega
  subst this
  rw [Int.gcd_zero] at hg
  omega
theorem part_ne {a b : Int} (hb : b ≠ 0) : ((Int.gcd a b : Nat) : Int) ≠ 0 := by
  have := Int.gcd_ne_zero_right (a := a) hb
  omega
theorem fr_num_pos {a b : Int} (hb : 0 < b) : a.fdiv (Int.gcd a b : Nat) = (Rat.divInt a b).num := by
  rw [Rat.num_divInt, Int.sign_eq_one_of_pos hb, Int.one_mul, Int.gcd_comm, Int.fdiv_eq_ediv_of_nonneg _ (by omega)]
theorem fr_den_pos {a b : Int} (hb : 0 < b) : b.fdiv (Int.gcd a b : Nat) = ((Rat.divInt a b).den : Int) := by
  rw [Rat.den_divInt, if_neg (by omega), Int.gcd_comm, Int.fdiv_eq_ediv_of_nonneg _ (by omega)]
  have : (b.natAbs : Int) = b := by omega
  rw [Int.natCast_ediv, this]
theorem fdiv_neg_of_dvd {a g : Int} (h : g ∣ a) : a.fdiv (-g) = -(a / g) := by
  rw [Int.fdiv_eq_ediv_of_dvd (by rwa [Int.neg_dvd]), Int.ediv_neg]
theorem fr_num_neg {a b : Int} (hb : b < 0) : a.fdiv (-((Int.gcd a b : Nat) : Int)) = (Rat.divInt a b).num := by
  rw [Rat.num_divInt, Int.sign_eq_neg_one_of_neg hb, Int.gcd_comm, fdiv_neg_of_dvd (by rw [Int.gcd_comm]; exact Int.gcd_dvd_left ..)]
  have : -1 * a = -a := by omega
  rw [this, Int.neg_ediv_of_dvd (Int.gcd_dvd_right ..)]
theorem fr_den_neg {a b : Int} (hb : b < 0) : b.fdiv (-((Int.gcd a b : Nat) : Int)) = ((Rat.divInt a b).den : Int) := by
  rw [Rat.den_divInt, if_neg (by omega), Int.gcd_comm, fdiv_neg_of_dvd (Int.gcd_dvd_left ..)]
  have : (b.natAbs : Int) = -b := by omega
  rw [Int.natCast_ediv, this, Int.neg_ediv_of_dvd (Int.gcd_dvd_left ..)]

theorem bits_num {a b : Int} {k : Nat} (ha : intBits a ≤ k) : intBits (Rat.divInt a b).num ≤ k := by
  refine intBits_le_of_natAbs ?_ ha
  rw [Rat.num_divInt]
  refine Nat.le_trans (Int.natAbs_ediv_le_natAbs _ _) ?_
  rw [Int.natAbs_mul]
  have : b.sign.natAbs ≤ 1 := by rcases Int.lt_trichotomy b 0 with h | h | h <;> simp [Int.sign_eq_neg_one_of_neg, Int.sign_eq_one_of_pos, h]
  calc _ ≤ 1 * a.natAbs := Nat.mul_le_mul_right _ this
    _ = _ := Nat.one_mul _
theorem bits_den {a b : Int} {k : Nat} (hk : 1 ≤ k) (hb : intBits b ≤ k) : intBits ((Rat.divInt a b).den : Int) ≤ k := by
  rw [Rat.den_divInt]
  split
  · exact Nat.le_trans (by decide) hk
  · refine intBits_le_of_natAbs ?_ hb
    rw [Int.natAbs_natCast]
    exact Nat.div_le_self _ _

theorem log_gcd {a b : Int} (hb : b ≠ 0) (h : intBits b ≤ 8000) : ((Int.gcd a b : Nat) : Int).natAbs.log2 < 9000 := by
  have h1 := intBits_le_iff.mp h
  have h2 := Int.gcd_le_natAbs_right a hb
  have h3 : Int.gcd a b < 2 ^ 8000 := Nat.lt_of_le_of_lt h2 h1
  rw [Int.natAbs_natCast]
  exact Nat.lt_of_lt_of_le ((Nat.log2_lt (Int.gcd_ne_zero_right hb)).mpr h3) (by decide)
theorem log_gcd_neg {a b : Int} (hb : b ≠ 0) (h : intBits b ≤ 8000) : (-((Int.gcd a b : Nat) : Int)).natAbs.log2 < 9000 := by
  rw [Int.natAbs_neg]; exact log_gcd hb h

/-- both the numbers of a fraction keep within k bits -/
def Qb (k : Nat) (q : Rat) : Prop := intBits q.num ≤ k ∧ intBits (q.den : Int) ≤ k
theorem Qb.mono {j k : Nat} {q : Rat} (h : Qb j q) (hjk : j ≤ k) : Qb k q := ⟨Nat.le_trans h.1 hjk, Nat.le_trans h.2 hjk⟩
theorem den_ne (q : Rat) : (q.den : Int) ≠ 0 := by have := q.den_nz; omega
theorem Qb.one_le {k : Nat} {q : Rat} (h : Qb k q) : 1 ≤ k := by
  have h2 := h.2
  rcases Nat.eq_zero_or_pos k with rfl | hk
  · exfalso
    have := intBits_le_iff.mp h2
    have := q.den_nz
    simp at *
    omega
  · exact hk
theorem mulOk_of {x y : Int} {j k : Nat} (hx : intBits x ≤ j) (hy : intBits y ≤ k) (h : j + k ≤ 100000000) : IntMulOk x y := by
  unfold IntMulOk intTooBig
  have e := bitsLine_eq
  simp only [Bool.and_eq_true, decide_eq_true_eq, not_and]
  intros
  omega

theorem times_is (p q : Rat) : Rat.divInt (p.num * q.num) (p.den * q.den) = p * q := by
  conv => rhs; rw [← Rat.num_divInt_den p, ← Rat.num_divInt_den q]
  rw [Rat.divInt_mul_divInt]
theorem less_is (p q : Rat) : Rat.divInt (p.num * q.den - q.num * p.den) (p.den * q.den) = p - q := by
  conv => rhs; rw [← Rat.num_divInt_den p, ← Rat.num_divInt_den q]
  rw [Rat.divInt_sub_divInt _ _ (den_ne p) (den_ne q)]
theorem by_is (p q : Rat) : Rat.divInt (p.num * q.den) (p.den * q.num) = p / q := by
  conv => rhs; rw [← Rat.num_divInt_den p, ← Rat.num_divInt_den q, Rat.div_def, Rat.inv_divInt]
  rw [Rat.divInt_mul_divInt]
theorem Qb.mul {j k : Nat} {p q : Rat} (hp : Qb j p) (hq : Qb k q) : Qb (j + k) (p * q) := by
  rw [← times_is]
  have := hp.one_le
  exact ⟨bits_num (intBits_mul_le hp.1 hq.1), bits_den (by omega) (intBits_mul_le hp.2 hq.2)⟩
theorem Qb.sub {j k : Nat} {p q : Rat} (hp : Qb j p) (hq : Qb k q) : Qb (j + k + 1) (p - q) := by
  rw [← less_is]
  have h := intBits_sub_le (intBits_mul_le hp.1 hq.2) (intBits_mul_le hq.1 hp.2)
  exact ⟨bits_num (by omega), bits_den (by omega) (Nat.le_succ_of_le (intBits_mul_le hp.2 hq.2))⟩
theorem Qb.div {j k : Nat} {p q : Rat} (hp : Qb j p) (hq : Qb k q) : Qb (j + k) (p / q) := by
  rw [← by_is]
  have := hp.one_le
  exact ⟨bits_num (intBits_mul_le hp.1 hq.2), bits_den (by omega) (intBits_mul_le hp.2 hq.1)⟩
theorem num_ne {q : Rat} (h : q ≠ 0) : q.num ≠ 0 := fun e => h (Rat.num_eq_zero.mp e)
end Mine
-- Comp
set_option maxHeartbeats 4000000
set_option maxRecDepth 100000
namespace Mine
open PySem PySem.Spec PySem.Calls PyProof.Rows PyProof.Rows.LCg

/-- the end of a turn of a comprehension: what the loop itself keeps (own) stands, the ledger led₁ has become led₂ -/
def CompOut (h₀ : Heap) (L : Addr) (m : Str → Option Value) (s₁ : Shared) (own led₁ : List (Addr × Obj)) (J : Value → List (Addr × Obj) → Prop) (v : Value) (s₂ : Shared) : Prop :=
  ∃ h' tk led₂, s₂ = { s₁ with heap := h', toks := tk } ∧ Fr h₀ L h' m ∧ News h₀ L h' (own ++ led₂) ∧ (∀ p ∈ led₂, (∃ q ∈ led₁, q.1 = p.1) ∨ ∀ q ∈ own, q.1 < p.1) ∧ J v led₂

theorem hid0 {G : Prop} (h : ∀ H : Prop, (G → H) → H) : G := h G id
section
variable {prog : Program} {w : World} {A : Around} {E : Value → Shared → Prop} {s : Shared} {h₀ : Heap} {L : Addr} {m : Str → Option Value} {env : Env}

theorem comp1_block {elt iter : Expr} {x : Str} {px : Pos} {scope : Scope} {cl : List (Str × Addr)} {pos : Pos} {s₂ : Shared} {I : Addr} {fp wr : List Addr} {n : Nat} {P : Nat → Value → Prop} {St : Nat → Heap → Prop} {led : List (Addr × Obj)}
    {RR : Value → Addr → Result → Shared → Prop}
    (W : Walks prog w A I fp wr n P St) (hsz : n ≤ sizeLine)
    (hcell : ∀ y ∈ scope.names, y.2 ≠ .cell) (hkind : scope.kind = .function) (hx : scope.names.lookup x = some .local) (hst : St 0 s₂.heap) (hlive : ∀ i h, St i h → ∀ b ∈ fp, ∃ o, h.get? b = some o)
    (F : Fr h₀ L s₂.heap m) (N : News h₀ L s₂.heap led) (hLf : L ∉ fp) (hwr : ∀ b ∈ wr, h₀.get? b = none) (hnw : ∀ p ∈ led, p.1 ∉ wr)
    (J : Nat → List Value → List (Addr × Obj) → Prop) (h0 : J 0 [] led)
    (turn : ∀ i v ys led₁ own C oC m₂ h tk (E' : Value → Shared → Prop), i < n → P i v → J i ys led₁ → (C, oC) ∈ own → (∀ q ∈ own, q.1 ∈ fp ∨ ∀ p ∈ led, p.1 < q.1) → NsObj oC m₂ → m₂ x = some v → Fr h₀ L h m → News h₀ L h (own ++ led₁) →
      wpAny (model prog w) A (eval elt (compEnvC scope cl C env)) (CompOut h₀ L m { s₂ with heap := h, toks := tk } own led₁ (fun y led₂ => J (i + 1) (ys ++ [y]) led₂)) E' { s₂ with heap := h, toks := tk })
    (hRR : ∀ D C h tk m' ys led₁, Fr h₀ L h m → News h₀ L h ((D, lst ys) :: led₁) → (∀ p ∈ led₁, p.1 ≠ D) → (∀ p ∈ led, p.1 < D) → h.Ns C m' → h₀.get? C = none → h₀.get? D = none → C ≠ L → D ≠ L → C ≠ D → (∀ p ∈ led₁, p.1 ≠ C) → ys.length = n → J n ys led₁ → RR (.ref D) C (.ok .next) { s₂ with heap := h, toks := tk }) :
    wpAny (model prog w) A (newList []) (fun acc s₃ => wpAny (model prog w) A (newFunctionEnv scope env.globals cl [] env.qual none .none (some env)) (fun cenv s₄ =>
      codeAny (model prog w) A (.compStart (.ListComp elt [⟨.Name x px, iter, [], 0⟩] scope pos) 0 (.ref I) acc { cenv with scope := relabel scope env }) (RR acc cenv.locals) s₄) E s₃) E s₂ := by
  refine wpAny_newObj_type (wpAny_newFunctionEnv hcell (by intro y hy; simp at hy) (fun h₁ hns₁ hsb₁ => ?_) hkind)
  dsimp only at hns₁ hsb₁ ⊢
  generalize hH2 : s₂.heap.push { cls := .type "list", dict := none, data := .seq ([] : List Value).toArray } = H2 at hns₁ hsb₁ ⊢
  have hC : H2.objs.size = s₂.heap.objs.size + 1 := by rw [← hH2, Heap.size_push]
  have hDC : s₂.heap.objs.size ≠ H2.objs.size := by rw [hC]; exact Nat.ne_of_lt (Nat.lt_succ_self _)
  have below : ∀ b, b < s₂.heap.objs.size → b ≠ H2.objs.size ∧ b ≠ s₂.heap.objs.size := fun b hb => ⟨by rw [hC]; exact Nat.ne_of_lt (Nat.lt_succ_of_lt hb), Nat.ne_of_lt hb⟩
  have hfl : ∀ b ∈ fp, b < s₂.heap.objs.size := fun b hb => by obtain ⟨o, e⟩ := hlive _ _ hst b hb; exact Heap.lt_size e
  have hDf : s₂.heap.objs.size ∉ fp := fun hm => Nat.lt_irrefl _ (hfl _ hm)
  have hCf : H2.objs.size ∉ fp := fun hm => by have := hfl _ hm; rw [hC] at this; exact Nat.lt_irrefl _ (Nat.lt_of_succ_lt this)
  have hDw : s₂.heap.objs.size ∉ wr := fun hm => hDf (W.sub _ hm)
  have hCw : H2.objs.size ∉ wr := fun hm => hCf (W.sub _ hm)
  have hLw : L ∉ wr := fun hm => hLf (W.sub _ hm)
  have old : ∀ b o, s₂.heap.get? b = some o → h₁.get? b = some o := fun b o e => hsb₁.extBut b o (below b (Heap.lt_size e)).1 (Heap.get?_push_of_some _ (hH2 ▸ Heap.get?_push_of_some _ e))
  have hacc : h₁.get? s₂.heap.objs.size = some (lst []) := hsb₁.extBut _ _ hDC (Heap.get?_push_of_some _ (hH2 ▸ Heap.get?_push_size _ rfl))
  have hst₁ : St 0 h₁ := W.frame _ _ _ hst fun b _ o e => old b o e
  have fresh : ∀ a, s₂.heap.objs.size ≤ a → s₂.heap.get? a = none := fun a ha => by
    cases e : s₂.heap.get? a with
    | none => rfl
    | some o' => exact absurd (Heap.lt_size e) (Nat.not_lt.mpr ha)
  have fresh₀ : ∀ a, s₂.heap.objs.size ≤ a → h₀.get? a = none := fun a ha => by
    cases e : h₀.get? a with
    | none => rfl
    | some o' => have := F.keep a o' e; rw [fresh a ha] at this; cases this
  have hD₀ : h₀.get? s₂.heap.objs.size = none := fresh₀ _ (Nat.le_refl _)
  have hC₀ : h₀.get? H2.objs.size = none := fresh₀ _ (by rw [hC]; exact Nat.le_succ _)
  have hLlt : L < s₂.heap.objs.size := F.ns.lt
  have hDL : s₂.heap.objs.size ≠ L := Ne.symm (below L hLlt).2
  have hCL : H2.objs.size ≠ L := Ne.symm (below L hLlt).1
  have oldw : ∀ b o, h₀.get? b = some o → b ∉ wr := fun b o e hb => by rw [hwr b hb] at e; cases e
  have loop : ∀ s₃ : Shared, s₃ = { s₂ with heap := h₁, toks := s₂.toks + ([] : List (Str × Value)).length } →
      codeAny (model prog w) A (.compLoop (.ListComp elt [⟨.Name x px, iter, [], 0⟩] scope pos) 0 (.ref I) (.ref s₂.heap.objs.size) (compEnvC scope cl H2.objs.size env))
        (RR (.ref s₂.heap.objs.size) H2.objs.size) s₃ := by
    rintro s₃ rfl
    refine codeAny_compLoop_tests
      (fun k s' => ∃ h' tk i ys m' led₁, s' = { s₂ with heap := h', toks := tk } ∧ i ≤ n ∧ k = n + 1 - i ∧ ys.length = i ∧ St i h' ∧ Fr h₀ L h' m ∧ h'.Ns H2.objs.size m' ∧ News h₀ L h' ((s₂.heap.objs.size, lst ys) :: led₁) ∧
        (∀ p ∈ led₁, p.1 ∉ wr ∧ p.1 ≠ H2.objs.size ∧ p.1 ≠ s₂.heap.objs.size) ∧ J i ys led₁) ?_ (n + 1)
      ⟨h₁, _, 0, [], _, led, rfl, Nat.zero_le _, rfl, rfl, hst₁, F.keeps old, hns₁, fun p hp => ?_, fun p hp => ⟨hnw p hp, below _ (Heap.lt_size (N p hp).1)⟩, h0⟩
    · intro k s' hI9
      refine hid0 fun H9 hH9 => ?_
      obtain ⟨h', tk, i, ys, m', led₁, hs9, hi, hk9, hyl, hst', F', hn', N', off', hJ⟩ := hI9
      refine hH9 ?_
      clear hH9 H9
      subst hs9 hk9
      have keepFr : ∀ h₂ : Heap, (∀ b o, b ∉ wr → h'.get? b = some o → h₂.get? b = some o) → Fr h₀ L h₂ m := fun h₂ hk => ⟨F'.ns.at' fun o e => hk L o hLw e, fun b o e => hk b o (oldw b o e) (F'.keep b o e), F'.above⟩
      have keepN : ∀ h₂ : Heap, (∀ b o, b ∉ wr → h'.get? b = some o → h₂.get? b = some o) → News h₀ L h₂ ((s₂.heap.objs.size, lst ys) :: led₁) := fun h₂ hk p hp => by
        refine ⟨hk _ _ ?_ (N' p hp).1, (N' p hp).2⟩
        rcases List.mem_cons.mp hp with rfl | hp
        · exact hDw
        · exact (off' p hp).1
      by_cases hlt : i < n
      · refine W.item i _ _ _ hlt hst' fun v h₂ tk₂ hPv hst₂ hk₂ => ?_
        refine wpAny_assign_Name (wpAny_storeName_local (lookup_relabel_local hx) (hn'.at' fun o e => hk₂ _ o hCw e) (fun h₃ hn₃ hs₃ => ?_) (by simp [compEnvC, relabel, hkind]))
        refine wpAny_tests_nil ?_
        simp only [if_true]
        have hst₃ : St (i + 1) h₃ := W.frame _ _ _ hst₂ fun b hb o e => hs₃.extBut b o (fun q => hCf (by have q' : b = H2.objs.size := q; rw [← q']; exact hb)) e
        obtain ⟨oC, heC, hoC⟩ := ns_obj hn₃
        have F₃ : Fr h₀ L h₃ m := (keepFr h₂ hk₂).change hs₃ hCL hC₀
        have N₂ := keepN h₂ hk₂
        have N₃ : News h₀ L h₃ ((s₂.heap.objs.size, lst ys) :: led₁) := fun p hp => by
          refine ⟨hs₃.extBut _ _ ?_ (N₂ p hp).1, (N₂ p hp).2⟩
          rcases List.mem_cons.mp hp with rfl | hp
          · exact hDC
          · exact (off' p hp).2.1
        have Nown : News h₀ L h₃ ((H2.objs.size, oC) :: (s₂.heap.objs.size, lst ys) :: ownOf h₀ fp h₃) := fun p hp => by
          rcases List.mem_cons.mp hp with rfl | hp
          · exact ⟨heC, hCL, hC₀⟩
          · rcases List.mem_cons.mp hp with rfl | hp
            · exact N₃ _ (List.mem_cons_self)
            · exact news_ownOf hLf p hp
        have NN : News h₀ L h₃ (((H2.objs.size, oC) :: (s₂.heap.objs.size, lst ys) :: ownOf h₀ fp h₃) ++ led₁) := fun p hp => (List.mem_append.mp hp).elim (Nown p) fun h => N₃ p (List.mem_cons_of_mem _ h)
        refine wpAny_mono (turn i v ys led₁ _ H2.objs.size oC _ h₃ _ _ hlt hPv hJ List.mem_cons_self (fun q hq => by
          rcases List.mem_cons.mp hq with rfl | hq
          · exact .inr fun p hp => by (show p.1 < H2.objs.size; rw [hC]; exact Nat.lt_succ_of_lt (Heap.lt_size (N p hp).1))
          · rcases List.mem_cons.mp hq with rfl | hq
            · exact .inr fun p hp => Heap.lt_size (N p hp).1
            · exact .inl (ownOf_sub q hq)) hoC (by simp) F₃ NN) (fun y s₄ h₄ => ?_) fun _ _ e => e
        refine hid0 fun H9 hH9 => ?_
        obtain ⟨h₄, tk₄, led₂, hs9, F₄, N₄, off₄, hJ₄⟩ := h₄
        refine hH9 ?_
        clear hH9 H9
        subst hs9
        have zC := (N₄ (H2.objs.size, oC) (List.mem_append_left _ List.mem_cons_self)).1
        have zD := (N₄ (s₂.heap.objs.size, lst ys) (List.mem_append_left _ (List.mem_cons_of_mem _ List.mem_cons_self))).1
        have zO : ∀ p ∈ ownOf h₀ fp h₃, h₄.get? p.1 = some p.2 := fun p hp => (N₄ p (List.mem_append_left _ (List.mem_cons_of_mem _ (List.mem_cons_of_mem _ hp)))).1
        have zf : ∀ b ∈ fp, ∀ o, h₃.get? b = some o → h₄.get? b = some o := fun b hb o e => by
          cases hn : h₀.get? b with
          | some o₀ =>
            have : o₀ = o := by have := F₃.keep b o₀ hn; rw [e] at this; exact (Option.some.inj this).symm
            exact this ▸ F₄.keep b o₀ hn
          | none => exact zO _ (mem_ownOf hb hn e)
        have hst₄ : St (i + 1) h₄ := W.frame _ _ _ hst₃ zf
        have N₄' : News h₀ L h₄ led₂ := fun p hp => N₄ p (List.mem_append_right _ hp)
        have off2 : ∀ p ∈ led₂, p.1 ∉ wr ∧ p.1 ≠ H2.objs.size ∧ p.1 ≠ s₂.heap.objs.size := fun p hp => by
          rcases off₄ p hp with ⟨q, hq, e⟩ | hall
          · rw [← e]; exact off' q hq
          · refine ⟨fun hw => ?_, Ne.symm (Nat.ne_of_lt (hall _ List.mem_cons_self)), Ne.symm (Nat.ne_of_lt (hall _ (List.mem_cons_of_mem _ List.mem_cons_self)))⟩
            obtain ⟨o, e⟩ := hlive _ _ hst₃ _ (W.sub _ hw)
            exact absurd (hall _ (List.mem_cons_of_mem _ (List.mem_cons_of_mem _ (mem_ownOf (W.sub _ hw) (hwr _ hw) e)))) (Nat.lt_irrefl _)
        refine append_at (hsz := by show ys.toArray.size ≤ sizeLine; rw [List.size_toArray, hyl]; exact Nat.le_trans hi hsz) zD fun h₅ hs₅ hD₅ => ?_
        refine ⟨n + 1 - (i + 1), by omega, h₅, tk₄, i + 1, ys ++ [y], _, led₂, rfl, hlt, rfl, by rw [List.length_append, List.length_singleton, hyl], W.frame _ _ _ hst₄ fun b hb o e => hs₅.extBut b o (fun q => hDf (q ▸ hb)) e,
          F₄.change hs₅ hDL hD₀,
          (hoC.ns zC).sameBut hs₅ (Ne.symm hDC), fun p hp => ?_, off2, hJ₄⟩
        rcases List.mem_cons.mp hp with rfl | hp
        · exact ⟨hD₅.trans (congrArg some (lst_snoc ys y)), hDL, hD₀⟩
        · exact ⟨hs₅.extBut _ _ (off2 p hp).2.2 (N₄' p hp).1, (N₄' p hp).2⟩
      · obtain rfl : i = n := Nat.le_antisymm hi (Nat.not_lt.mp hlt)
        refine W.done _ _ _ hst' fun h₂ tk₂ hk₂ => ?_
        exact hRR _ _ h₂ tk₂ _ ys led₁ (keepFr h₂ hk₂) (keepN h₂ hk₂) (fun p hp => (off' p hp).2.2) (fun p hp => Heap.lt_size (N p hp).1) (hn'.at' fun o e => hk₂ _ o hCw e) hC₀ hD₀ hCL hDL (Ne.symm hDC) (fun p hp => (off' p hp).2.1) hyl hJ
    · rcases List.mem_cons.mp hp with rfl | hp
      · exact ⟨hacc, hDL, hD₀⟩
      · exact ⟨old _ _ (N p hp).1, (N p hp).2⟩
  exact codeAny_compStart_list (loop _ rfl) (W.self 0 _ _ _ hst₁ (loop _ rfl))
theorem comp2_block {elt iter : Expr} {x x₂ : Str} {px px₂ tp : Pos} {kk : Nat} {scope : Scope} {cl : List (Str × Addr)} {pos : Pos} {s₂ : Shared} {I : Addr} {fp wr : List Addr} {n : Nat} {Pt : Nat → Array Value → Prop} {St : Nat → Heap → Prop} {Mid : Nat → Addr → Heap → Prop} {led : List (Addr × Obj)}
    {RR : Value → Addr → Result → Shared → Prop}
    (W : WalksU prog w A I fp wr n Pt St Mid) (hh : A.handled = none) (hpair : ∀ i vals, Pt i vals → ∃ a b, vals = #[a, b]) (hsz : n ≤ sizeLine)
    (hcell : ∀ y ∈ scope.names, y.2 ≠ .cell) (hkind : scope.kind = .function) (hx : scope.names.lookup x = some .local) (hx₂ : scope.names.lookup x₂ = some .local) (hxx : ¬ x = x₂) (hst : St 0 s₂.heap) (hlive : ∀ i h, St i h → ∀ b ∈ fp, ∃ o, h.get? b = some o)
    (F : Fr h₀ L s₂.heap m) (N : News h₀ L s₂.heap led) (hLf : L ∉ fp) (hwr : ∀ b ∈ wr, h₀.get? b = none) (hnw : ∀ p ∈ led, p.1 ∉ wr)
    (J : Nat → List Value → List (Addr × Obj) → Prop) (h0 : J 0 [] led)
    (turn : ∀ i v v₂ ys led₁ own C oC m₂ h tk (E' : Value → Shared → Prop), i < n → Pt i #[v, v₂] → J i ys led₁ → (C, oC) ∈ own → NsObj oC m₂ → m₂ x = some v → m₂ x₂ = some v₂ → Fr h₀ L h m → News h₀ L h (own ++ led₁) →
      wpAny (model prog w) A (eval elt (compEnvC scope cl C env)) (CompOut h₀ L m { s₂ with heap := h, toks := tk } own led₁ (fun y led₂ => J (i + 1) (ys ++ [y]) led₂)) E' { s₂ with heap := h, toks := tk })
    (hRR : ∀ D C h tk m' ys led₁, Fr h₀ L h m → News h₀ L h ((D, lst ys) :: led₁) → (∀ p ∈ led₁, p.1 ≠ D) → (∀ p ∈ led, p.1 < D) → h.Ns C m' → h₀.get? C = none → h₀.get? D = none → C ≠ L → D ≠ L → C ≠ D → (∀ p ∈ led₁, p.1 ≠ C) → ys.length = n → J n ys led₁ → RR (.ref D) C (.ok .next) { s₂ with heap := h, toks := tk }) :
    wpAny (model prog w) A (newList []) (fun acc s₃ => wpAny (model prog w) A (newFunctionEnv scope env.globals cl [] env.qual none .none (some env)) (fun cenv s₄ =>
      codeAny (model prog w) A (.compStart (.ListComp elt [⟨.Tuple [.Name x px, .Name x₂ px₂] kk tp, iter, [], 0⟩] scope pos) 0 (.ref I) acc { cenv with scope := relabel scope env }) (RR acc cenv.locals) s₄) E s₃) E s₂ := by
  refine wpAny_newObj_type (wpAny_newFunctionEnv hcell (by intro y hy; simp at hy) (fun h₁ hns₁ hsb₁ => ?_) hkind)
  dsimp only at hns₁ hsb₁ ⊢
  generalize hH2 : s₂.heap.push { cls := .type "list", dict := none, data := .seq ([] : List Value).toArray } = H2 at hns₁ hsb₁ ⊢
  have hC : H2.objs.size = s₂.heap.objs.size + 1 := by rw [← hH2, Heap.size_push]
  have hDC : s₂.heap.objs.size ≠ H2.objs.size := by rw [hC]; exact Nat.ne_of_lt (Nat.lt_succ_self _)
  have below : ∀ b, b < s₂.heap.objs.size → b ≠ H2.objs.size ∧ b ≠ s₂.heap.objs.size := fun b hb => ⟨by rw [hC]; exact Nat.ne_of_lt (Nat.lt_succ_of_lt hb), Nat.ne_of_lt hb⟩
  have hfl : ∀ b ∈ fp, b < s₂.heap.objs.size := fun b hb => by obtain ⟨o, e⟩ := hlive _ _ hst b hb; exact Heap.lt_size e
  have hDf : s₂.heap.objs.size ∉ fp := fun hm => Nat.lt_irrefl _ (hfl _ hm)
  have hCf : H2.objs.size ∉ fp := fun hm => by have := hfl _ hm; rw [hC] at this; exact Nat.lt_irrefl _ (Nat.lt_of_succ_lt this)
  have hDw : s₂.heap.objs.size ∉ wr := fun hm => hDf (W.sub _ hm)
  have hCw : H2.objs.size ∉ wr := fun hm => hCf (W.sub _ hm)
  have hLw : L ∉ wr := fun hm => hLf (W.sub _ hm)
  have old : ∀ b o, s₂.heap.get? b = some o → h₁.get? b = some o := fun b o e => hsb₁.extBut b o (below b (Heap.lt_size e)).1 (Heap.get?_push_of_some _ (hH2 ▸ Heap.get?_push_of_some _ e))
  have hacc : h₁.get? s₂.heap.objs.size = some (lst []) := hsb₁.extBut _ _ hDC (Heap.get?_push_of_some _ (hH2 ▸ Heap.get?_push_size _ rfl))
  have hst₁ : St 0 h₁ := W.frame _ _ _ hst fun b _ o e => old b o e
  have fresh : ∀ a, s₂.heap.objs.size ≤ a → s₂.heap.get? a = none := fun a ha => by
    cases e : s₂.heap.get? a with
    | none => rfl
    | some o' => exact absurd (Heap.lt_size e) (Nat.not_lt.mpr ha)
  have fresh₀ : ∀ a, s₂.heap.objs.size ≤ a → h₀.get? a = none := fun a ha => by
    cases e : h₀.get? a with
    | none => rfl
    | some o' => have := F.keep a o' e; rw [fresh a ha] at this; cases this
  have hD₀ : h₀.get? s₂.heap.objs.size = none := fresh₀ _ (Nat.le_refl _)
  have hC₀ : h₀.get? H2.objs.size = none := fresh₀ _ (by rw [hC]; exact Nat.le_succ _)
  have hLlt : L < s₂.heap.objs.size := F.ns.lt
  have hDL : s₂.heap.objs.size ≠ L := Ne.symm (below L hLlt).2
  have hCL : H2.objs.size ≠ L := Ne.symm (below L hLlt).1
  have oldw : ∀ b o, h₀.get? b = some o → b ∉ wr := fun b o e hb => by rw [hwr b hb] at e; cases e
  have loop : ∀ s₃ : Shared, s₃ = { s₂ with heap := h₁, toks := s₂.toks + ([] : List (Str × Value)).length } →
      codeAny (model prog w) A (.compLoop (.ListComp elt [⟨.Tuple [.Name x px, .Name x₂ px₂] kk tp, iter, [], 0⟩] scope pos) 0 (.ref I) (.ref s₂.heap.objs.size) (compEnvC scope cl H2.objs.size env))
        (RR (.ref s₂.heap.objs.size) H2.objs.size) s₃ := by
    rintro s₃ rfl
    refine PySem.W.kcp_loop
      (fun k s' => ∃ h' tk i ys m' led₁, s' = { s₂ with heap := h', toks := tk } ∧ i ≤ n ∧ k = n + 1 - i ∧ ys.length = i ∧ St i h' ∧ Fr h₀ L h' m ∧ h'.Ns H2.objs.size m' ∧ News h₀ L h' ((s₂.heap.objs.size, lst ys) :: led₁) ∧
        (∀ p ∈ led₁, p.1 ∉ wr ∧ p.1 ≠ H2.objs.size ∧ p.1 ≠ s₂.heap.objs.size) ∧ J i ys led₁) ?_ (n + 1)
      ⟨h₁, _, 0, [], _, led, rfl, Nat.zero_le _, rfl, rfl, hst₁, F.keeps old, hns₁, fun p hp => ?_, fun p hp => ⟨hnw p hp, below _ (Heap.lt_size (N p hp).1)⟩, h0⟩
    · intro k s' hI9
      refine hid0 fun H9 hH9 => ?_
      obtain ⟨h', tk, i, ys, m', led₁, hs9, hi, hk9, hyl, hst', F', hn', N', off', hJ⟩ := hI9
      refine hH9 ?_
      clear hH9 H9
      subst hs9 hk9
      have keepFr : ∀ h₂ : Heap, (∀ b o, b ∉ wr → h'.get? b = some o → h₂.get? b = some o) → Fr h₀ L h₂ m := fun h₂ hk => ⟨F'.ns.at' fun o e => hk L o hLw e, fun b o e => hk b o (oldw b o e) (F'.keep b o e), F'.above⟩
      have keepN : ∀ h₂ : Heap, (∀ b o, b ∉ wr → h'.get? b = some o → h₂.get? b = some o) → News h₀ L h₂ ((s₂.heap.objs.size, lst ys) :: led₁) := fun h₂ hk p hp => by
        refine ⟨hk _ _ ?_ (N' p hp).1, (N' p hp).2⟩
        rcases List.mem_cons.mp hp with rfl | hp
        · exact hDw
        · exact (off' p hp).1
      by_cases hlt : i < n
      · refine W.item i _ _ _ hlt hst' fun T vals h₁' tk₁ hPv hT hMd hk₁ => ?_
        refine W.go _ _ _ i T _ _ _ hMd fun h₂ hst₂ hk₁' => ?_
        obtain ⟨v, v₂, rfl⟩ := hpair i vals hPv
        have hTw : T ∉ wr := W.apart _ _ _ hMd
        have hk₂ : ∀ b o, b ∉ wr → h'.get? b = some o → h₂.get? b = some o := fun b o hb e => hk₁' b o hb (hk₁ b o hb e)
        have hT₂ : h₂.IsTuple T #[v, v₂] := by
          obtain ⟨oT, eT, rT⟩ := hT
          exact ⟨oT, hk₁' _ _ hTw eT, rT⟩
        refine PySem.W.kcp_assign (env := compEnvC scope cl H2.objs.size env) hh hT₂ (lookup_relabel_local hx) (lookup_relabel_local hx₂) (by simp [compEnvC, relabel, hkind]) (hn'.at' fun o e => hk₂ _ o hCw e) fun h₃ tk₃ hn₃ hs₃ => ?_
        replace hn₃ : h₃.Ns H2.objs.size (fun z => if z = x₂ then some v₂ else if z = x then some v else m' z) := hn₃
        have up₃ : ∀ c o, c ≠ H2.objs.size → h₂.get? c = some o → h₃.get? c = some o := hs₃
        have hst₃ : St (i + 1) h₃ := W.frame _ _ _ hst₂ fun b hb o e => up₃ b o (fun q => hCf (by rw [← q]; exact hb)) e
        obtain ⟨oC, heC, hoC⟩ := ns_obj hn₃
        have F₃ : Fr h₀ L h₃ m := by
          have F₂ := keepFr h₂ hk₂
          exact ⟨F₂.ns.at' fun o e => up₃ _ o (Ne.symm hCL) e, fun b o e => up₃ b o (fun q => by rw [q, hC₀] at e; cases e) (F₂.keep b o e), F₂.above⟩
        have N₂ := keepN h₂ hk₂
        have N₃ : News h₀ L h₃ ((s₂.heap.objs.size, lst ys) :: led₁) := fun p hp => by
          refine ⟨up₃ _ _ ?_ (N₂ p hp).1, (N₂ p hp).2⟩
          rcases List.mem_cons.mp hp with rfl | hp
          · exact hDC
          · exact (off' p hp).2.1
        have Nown : News h₀ L h₃ ((H2.objs.size, oC) :: (s₂.heap.objs.size, lst ys) :: ownOf h₀ fp h₃) := fun p hp => by
          rcases List.mem_cons.mp hp with rfl | hp
          · exact ⟨heC, hCL, hC₀⟩
          · rcases List.mem_cons.mp hp with rfl | hp
            · exact N₃ _ (List.mem_cons_self)
            · exact news_ownOf hLf p hp
        have NN : News h₀ L h₃ (((H2.objs.size, oC) :: (s₂.heap.objs.size, lst ys) :: ownOf h₀ fp h₃) ++ led₁) := fun p hp => (List.mem_append.mp hp).elim (Nown p) fun h => N₃ p (List.mem_cons_of_mem _ h)
        refine wpAny_mono (turn i v v₂ ys led₁ _ H2.objs.size oC _ h₃ _ _ hlt hPv hJ List.mem_cons_self hoC (by simp [hxx]) (by simp) F₃ NN) (fun y s₄ h₄ => ?_) fun _ _ e => e
        refine hid0 fun H9 hH9 => ?_
        obtain ⟨h₄, tk₄, led₂, hs9, F₄, N₄, off₄, hJ₄⟩ := h₄
        refine hH9 ?_
        clear hH9 H9
        subst hs9
        have zC := (N₄ (H2.objs.size, oC) (List.mem_append_left _ List.mem_cons_self)).1
        have zD := (N₄ (s₂.heap.objs.size, lst ys) (List.mem_append_left _ (List.mem_cons_of_mem _ List.mem_cons_self))).1
        have zO : ∀ p ∈ ownOf h₀ fp h₃, h₄.get? p.1 = some p.2 := fun p hp => (N₄ p (List.mem_append_left _ (List.mem_cons_of_mem _ (List.mem_cons_of_mem _ hp)))).1
        have zf : ∀ b ∈ fp, ∀ o, h₃.get? b = some o → h₄.get? b = some o := fun b hb o e => by
          cases hn : h₀.get? b with
          | some o₀ =>
            have : o₀ = o := by have := F₃.keep b o₀ hn; rw [e] at this; exact (Option.some.inj this).symm
            exact this ▸ F₄.keep b o₀ hn
          | none => exact zO _ (mem_ownOf hb hn e)
        have hst₄ : St (i + 1) h₄ := W.frame _ _ _ hst₃ zf
        have N₄' : News h₀ L h₄ led₂ := fun p hp => N₄ p (List.mem_append_right _ hp)
        have off2 : ∀ p ∈ led₂, p.1 ∉ wr ∧ p.1 ≠ H2.objs.size ∧ p.1 ≠ s₂.heap.objs.size := fun p hp => by
          rcases off₄ p hp with ⟨q, hq, e⟩ | hall
          · rw [← e]; exact off' q hq
          · refine ⟨fun hw => ?_, Ne.symm (Nat.ne_of_lt (hall _ List.mem_cons_self)), Ne.symm (Nat.ne_of_lt (hall _ (List.mem_cons_of_mem _ List.mem_cons_self)))⟩
            obtain ⟨o, e⟩ := hlive _ _ hst₃ _ (W.sub _ hw)
            exact absurd (hall _ (List.mem_cons_of_mem _ (List.mem_cons_of_mem _ (mem_ownOf (W.sub _ hw) (hwr _ hw) e)))) (Nat.lt_irrefl _)
        refine append_at (hsz := by show ys.toArray.size ≤ sizeLine; rw [List.size_toArray, hyl]; exact Nat.le_trans hi hsz) zD fun h₅ hs₅ hD₅ => ?_
        refine ⟨n + 1 - (i + 1), by omega, h₅, tk₄, i + 1, ys ++ [y], _, led₂, rfl, hlt, rfl, by rw [List.length_append, List.length_singleton, hyl], W.frame _ _ _ hst₄ fun b hb o e => hs₅.extBut b o (fun q => hDf (q ▸ hb)) e,
          F₄.change hs₅ hDL hD₀,
          (hoC.ns zC).sameBut hs₅ (Ne.symm hDC), fun p hp => ?_, off2, hJ₄⟩
        rcases List.mem_cons.mp hp with rfl | hp
        · exact ⟨hD₅.trans (congrArg some (lst_snoc ys y)), hDL, hD₀⟩
        · exact ⟨hs₅.extBut _ _ (off2 p hp).2.2 (N₄' p hp).1, (N₄' p hp).2⟩
      · obtain rfl : i = n := Nat.le_antisymm hi (Nat.not_lt.mp hlt)
        refine W.done _ _ _ hst' fun h₂ tk₂ hk₂ => ?_
        exact hRR _ _ h₂ tk₂ _ ys led₁ (keepFr h₂ hk₂) (keepN h₂ hk₂) (fun p hp => (off' p hp).2.2) (fun p hp => Heap.lt_size (N p hp).1) (hn'.at' fun o e => hk₂ _ o hCw e) hC₀ hD₀ hCL hDL (Ne.symm hDC) (fun p hp => (off' p hp).2.1) hyl hJ
    · rcases List.mem_cons.mp hp with rfl | hp
      · exact ⟨hacc, hDL, hD₀⟩
      · exact ⟨old _ _ (N p hp).1, (N p hp).2⟩
  exact codeAny_compStart_list (loop _ rfl) (W.self 0 _ _ _ hst₁ (loop _ rfl))

end
/-- what a comprehension with one name wants of its iterator -/
def Cmp1 (prog : Program) (w : World) (A : Around) (h₀ : Heap) (L : Addr) (m : Str → Option Value) (env : Env) (elt : Expr) (x : Str) (scope : Scope) (cl : List (Str × Addr)) (Fin : Value → Heap → Nat → List (Addr × Obj) → Prop) (it : Value) (s₂ : Shared) : Prop :=
  ∃ (I : Addr) (fp wr : List Addr) (n : Nat) (P : Nat → Value → Prop) (St : Nat → Heap → Prop) (led : List (Addr × Obj)) (J : Nat → List Value → List (Addr × Obj) → Prop),
    it = .ref I ∧ Walks prog w A I fp wr n P St ∧ n ≤ sizeLine ∧ St 0 s₂.heap ∧ (∀ i h, St i h → ∀ b ∈ fp, ∃ o, h.get? b = some o) ∧ Fr h₀ L s₂.heap m ∧ News h₀ L s₂.heap led ∧ L ∉ fp ∧ (∀ b ∈ wr, h₀.get? b = none) ∧ (∀ p ∈ led, p.1 ∉ wr) ∧ J 0 [] led ∧
    (∀ i v ys led₁ own C oC m₂ h tk (E' : Value → Shared → Prop), i < n → P i v → J i ys led₁ → (C, oC) ∈ own → (∀ q ∈ own, q.1 ∈ fp ∨ ∀ p ∈ led, p.1 < q.1) → NsObj oC m₂ → m₂ x = some v → Fr h₀ L h m → News h₀ L h (own ++ led₁) →
      wpAny (model prog w) A (eval elt (compEnvC scope cl C env)) (CompOut h₀ L m { s₂ with heap := h, toks := tk } own led₁ (fun y led₂ => J (i + 1) (ys ++ [y]) led₂)) E' { s₂ with heap := h, toks := tk }) ∧
    (∀ D h tk ys led₁, News h₀ L h ((D, lst ys) :: led₁) → (∀ p ∈ led₁, p.1 ≠ D) → (∀ p ∈ led, p.1 < D) → ys.length = n → J n ys led₁ → Fin (.ref D) h tk led₁)
def Cmp2 (prog : Program) (w : World) (A : Around) (h₀ : Heap) (L : Addr) (m : Str → Option Value) (env : Env) (elt : Expr) (x x₂ : Str) (scope : Scope) (cl : List (Str × Addr)) (Fin : Value → Heap → Nat → List (Addr × Obj) → Prop) (it : Value) (s₂ : Shared) : Prop :=
  ∃ (I : Addr) (fp wr : List Addr) (n : Nat) (Pt : Nat → Array Value → Prop) (St : Nat → Heap → Prop) (Mid : Nat → Addr → Heap → Prop) (led : List (Addr × Obj)) (J : Nat → List Value → List (Addr × Obj) → Prop),
    it = .ref I ∧ A.handled = none ∧ WalksU prog w A I fp wr n Pt St Mid ∧ (∀ i vals, Pt i vals → ∃ a b, vals = #[a, b]) ∧ n ≤ sizeLine ∧ St 0 s₂.heap ∧ (∀ i h, St i h → ∀ b ∈ fp, ∃ o, h.get? b = some o) ∧ Fr h₀ L s₂.heap m ∧ News h₀ L s₂.heap led ∧ L ∉ fp ∧ (∀ b ∈ wr, h₀.get? b = none) ∧ (∀ p ∈ led, p.1 ∉ wr) ∧ J 0 [] led ∧
    (∀ i v v₂ ys led₁ own C oC m₂ h tk (E' : Value → Shared → Prop), i < n → Pt i #[v, v₂] → J i ys led₁ → (C, oC) ∈ own → NsObj oC m₂ → m₂ x = some v → m₂ x₂ = some v₂ → Fr h₀ L h m → News h₀ L h (own ++ led₁) →
      wpAny (model prog w) A (eval elt (compEnvC scope cl C env)) (CompOut h₀ L m { s₂ with heap := h, toks := tk } own led₁ (fun y led₂ => J (i + 1) (ys ++ [y]) led₂)) E' { s₂ with heap := h, toks := tk }) ∧
    (∀ D h tk ys led₁, News h₀ L h ((D, lst ys) :: led₁) → (∀ p ∈ led₁, p.1 ≠ D) → (∀ p ∈ led, p.1 < D) → ys.length = n → J n ys led₁ → Fin (.ref D) h tk led₁)
/-- what is wanted behind a comprehension that is evaluated -/
def FinOfE (h₀ : Heap) (L : Addr) (m : Str → Option Value) (s : Shared) (Q : Value → Shared → Prop) (D : Value) (h : Heap) (tk : Nat) (led₁ : List (Addr × Obj)) : Prop :=
  ∃ a o, D = .ref a ∧ h.get? a = some o ∧ ∀ h', Fr h₀ L h' m → News h₀ L h' ((a, o) :: led₁) → Q D { s with heap := h', toks := tk }
def FinOfA (h₀ : Heap) (L : Addr) (m : Str → Option Value) (y : Str) (s : Shared) (Q : Flow → Shared → Prop) (D : Value) (h : Heap) (_tk : Nat) (led₁ : List (Addr × Obj)) : Prop :=
  ∃ a o, D = .ref a ∧ h.get? a = some o ∧ ∀ h' tk', Fr h₀ L h' (fun z => if z = y then some D else m z) → News h₀ L h' ((a, o) :: led₁) → Q .next { s with heap := h', toks := tk' }
def IterE1 (prog : Program) (w : World) (A : Around) (E : Value → Shared → Prop) (h₀ : Heap) (L : Addr) (m : Str → Option Value) (env : Env) (elt : Expr) (x : Str) (scope : Scope) (cl : List (Str × Addr)) (Q : Value → Shared → Prop) (xv : Value) (s₁ : Shared) : Prop :=
  wpAny (model prog w) A (pyIter xv) (fun it s₂ => Cmp1 prog w A h₀ L m env elt x scope cl (FinOfE h₀ L m s₂ Q) it s₂) E s₁
def IterA1 (prog : Program) (w : World) (A : Around) (E : Value → Shared → Prop) (h₀ : Heap) (L : Addr) (m : Str → Option Value) (env : Env) (elt : Expr) (x : Str) (scope : Scope) (cl : List (Str × Addr)) (y : Str) (Q : Flow → Shared → Prop) (xv : Value) (s₁ : Shared) : Prop :=
  wpAny (model prog w) A (pyIter xv) (fun it s₂ => Cmp1 prog w A h₀ L m env elt x scope cl (FinOfA h₀ L m y s₂ Q) it s₂) E s₁
def IterE2 (prog : Program) (w : World) (A : Around) (E : Value → Shared → Prop) (h₀ : Heap) (L : Addr) (m : Str → Option Value) (env : Env) (elt : Expr) (x x₂ : Str) (scope : Scope) (cl : List (Str × Addr)) (Q : Value → Shared → Prop) (xv : Value) (s₁ : Shared) : Prop :=
  wpAny (model prog w) A (pyIter xv) (fun it s₂ => Cmp2 prog w A h₀ L m env elt x x₂ scope cl (FinOfE h₀ L m s₂ Q) it s₂) E s₁
def IterA2 (prog : Program) (w : World) (A : Around) (E : Value → Shared → Prop) (h₀ : Heap) (L : Addr) (m : Str → Option Value) (env : Env) (elt : Expr) (x x₂ : Str) (scope : Scope) (cl : List (Str × Addr)) (y : Str) (Q : Flow → Shared → Prop) (xv : Value) (s₁ : Shared) : Prop :=
  wpAny (model prog w) A (pyIter xv) (fun it s₂ => Cmp2 prog w A h₀ L m env elt x x₂ scope cl (FinOfA h₀ L m y s₂ Q) it s₂) E s₁
section
variable {prog : Program} {w : World} {A : Around} {E : Value → Shared → Prop} {s : Shared} {h₀ : Heap} {L : Addr} {m : Str → Option Value} {env : Env}
theorem ListComp1E (_F₀ : Fr h₀ L s.heap m) {elt iter : Expr} {x : Str} {px : Pos} {scope : Scope} {cl : List (Str × Addr)} {pos : Pos} {Q : Value → Shared → Prop}
    (hclos : closureFor scope env = pure cl) (hcell : ∀ y ∈ scope.names, y.2 ≠ .cell) (hkind : scope.kind = .function)
    (hnames : ∀ y ∈ scope.names, y.2 = .local → scope.names.lookup y.1 = some .local) (hx : scope.names.lookup x = some .local)
    (h : wpAny (model prog w) A (eval iter env) (IterE1 prog w A E h₀ L m env elt x scope cl Q) E s)
    (hs : ∀ x, foldedSetIterable iter env x = pure x := by intro _; rfl) :
    wpAny (model prog w) A (eval (.ListComp elt [⟨.Name x px, iter, [], 0⟩] scope pos) env) Q E s := by
  rw [eval_ListComp]
  refine wpAny_comprehension_free (use := none) rfl hs hclos hkind hnames (wpAny_mono h (fun xv s₁ h₁ => ?_) fun _ _ e => e)
  refine wpAny_mono h₁ (fun it s₂ h₂ => ?_) fun _ _ e => e
  refine hid0 fun H9 hH9 => ?_
  obtain ⟨I, fp, wr, n, P, St, led, J, hit, W, hsz, hst, hlive, F, N, hLf, hwr, hnw, h0, turn, fin⟩ := h₂
  refine hH9 ?_
  clear hH9 H9
  subst hit
  refine comp1_block W hsz hcell hkind hx hst hlive F N hLf hwr hnw J h0 turn ?_
  intro D C h tk m' ys led₁ F' N' hD hlt hn hC₀ hD₀ hCL hDL hCD offC hlen hJ
  obtain ⟨a, o, ea, ho, hQ⟩ := fin D h tk ys led₁ N' hD hlt hlen hJ
  cases ea
  refine ⟨m', hn, fun h'' hs'' => hQ h'' (F'.change hs'' hCL hC₀) fun p hp => ?_⟩
  have z : h.get? p.1 = some p.2 ∧ p.1 ≠ L ∧ h₀.get? p.1 = none := by
    rcases List.mem_cons.mp hp with rfl | hp
    · exact ⟨ho, (N' _ List.mem_cons_self).2⟩
    · exact N' p (List.mem_cons_of_mem _ hp)
  refine ⟨hs''.extBut _ _ ?_ z.1, z.2⟩
  rcases List.mem_cons.mp hp with rfl | hp
  · exact Ne.symm hCD
  · exact offC p hp
theorem ListComp1A (_F₀ : Fr h₀ L s.heap m) {elt iter : Expr} {x : Str} {px : Pos} {y : Str} {py : Pos} {scope : Scope} {cl : List (Str × Addr)} {pos spos : Pos} {Q : Flow → Shared → Prop} (hLe : env.locals = L)
    (hsw : swapsWith (.ListComp elt [⟨.Name x px, iter, [], 0⟩] scope pos) (some (.Name y py)) spos.line env = pure true)
    (hclos : closureFor scope env = pure cl) (hcell : ∀ z ∈ scope.names, z.2 ≠ .cell) (hkind : scope.kind = .function)
    (hnames : ∀ z ∈ scope.names, z.2 = .local → scope.names.lookup z.1 = some .local) (hx : scope.names.lookup x = some .local)
    (hy : env.kindOf y = some .local) (hp : (env.scope.kind == .class || (env.scope.kind == .module && env.locals != env.globals)) = false)
    (h : wpAny (model prog w) A (eval iter env) (IterA1 prog w A E h₀ L m env elt x scope cl y Q) E s)
    (hs : ∀ x, foldedSetIterable iter env x = pure x := by intro _; rfl) :
    wpAny (model prog w) A (exec (.Assign [.Name y py] (.ListComp elt [⟨.Name x px, iter, [], 0⟩] scope pos) spos) env) Q E s := by
  subst hLe
  rw [exec_Assign_Name_used _ _ _ _ hsw]
  refine wpAny_bind (wpAny_standAt (wpAny_bind ?_))
  show wpAny _ A (do let _ ← comprehension (.ListComp elt [⟨.Name x px, iter, [], 0⟩] scope pos) scope env _ (newList []) false (eval iter env) (some (assign (.Name y py) env))) _ _ s
  refine wpAny_bind (wpAny_mono (wpAny_comprehension_free (use := some (assign (.Name y py) env)) (Q := fun _ s' => Q .next s') rfl hs hclos hkind hnames
    (wpAny_mono h (fun xv s₁ h₁ => ?_) fun _ _ e => e)) (fun _ s' hq => wpAny_pure (wpAny_pure hq)) fun _ _ e => e)
  refine wpAny_mono h₁ (fun it s₂ h₂ => ?_) fun _ _ e => e
  refine hid0 fun H9 hH9 => ?_
  obtain ⟨I, fp, wr, n, P, St, led, J, hit, W, hsz, hst, hlive, F, N, hLf, hwr, hnw, h0, turn, fin⟩ := h₂
  refine hH9 ?_
  clear hH9 H9
  subst hit
  refine comp1_block W hsz hcell hkind hx hst hlive F N hLf hwr hnw J h0 turn ?_
  intro D C h tk m' ys led₁ F' N' hD hlt hn hC₀ hD₀ hCL hDL hCD offC hlen hJ
  obtain ⟨a, o, ea, ho, hQ⟩ := fin D h tk ys led₁ N' hD hlt hlen hJ
  cases ea
  show wpAny _ A (assign (.Name y py) env (.ref D)) _ _ _
  refine wpAny_assign_Name (wpAny_storeName_local hy F'.ns (fun h₂ hn₂ hs₂ => ?_) hp)
  have hL₀ : h₀.get? env.locals = none := Heap.get?_none_of_le F'.above
  have F₂ : Fr h₀ env.locals h₂ (fun z => if z = y then some (.ref D) else m z) := ⟨hn₂, fun b o e => hs₂.extBut b o (fun q => by rw [q, hL₀] at e; cases e) (F'.keep b o e), F'.above⟩
  refine ⟨m', hn.sameBut hs₂ hCL, fun h'' hs'' => hQ h'' _ (F₂.change hs'' hCL hC₀) fun p hp => ?_⟩
  have z : h.get? p.1 = some p.2 ∧ p.1 ≠ env.locals ∧ h₀.get? p.1 = none := by
    rcases List.mem_cons.mp hp with rfl | hp
    · exact ⟨ho, (N' _ List.mem_cons_self).2⟩
    · exact N' p (List.mem_cons_of_mem _ hp)
  have z₂ : h₂.get? p.1 = some p.2 := hs₂.extBut _ _ z.2.1 z.1
  refine ⟨hs''.extBut _ _ ?_ z₂, z.2⟩
  rcases List.mem_cons.mp hp with rfl | hp
  · exact Ne.symm hCD
  · exact offC p hp
theorem ListComp2E (_F₀ : Fr h₀ L s.heap m) {elt iter : Expr} {x x₂ : Str} {px px₂ tp : Pos} {kk : Nat} {scope : Scope} {cl : List (Str × Addr)} {pos : Pos} {Q : Value → Shared → Prop}
    (hclos : closureFor scope env = pure cl) (hcell : ∀ y ∈ scope.names, y.2 ≠ .cell) (hkind : scope.kind = .function)
    (hnames : ∀ y ∈ scope.names, y.2 = .local → scope.names.lookup y.1 = some .local) (hx : scope.names.lookup x = some .local) (hx₂ : scope.names.lookup x₂ = some .local) (hxx : ¬ x = x₂)
    (h : wpAny (model prog w) A (eval iter env) (IterE2 prog w A E h₀ L m env elt x x₂ scope cl Q) E s)
    (hs : ∀ x, foldedSetIterable iter env x = pure x := by intro _; rfl) :
    wpAny (model prog w) A (eval (.ListComp elt [⟨.Tuple [.Name x px, .Name x₂ px₂] kk tp, iter, [], 0⟩] scope pos) env) Q E s := by
  rw [eval_ListComp]
  refine wpAny_comprehension_free (use := none) rfl hs hclos hkind hnames (wpAny_mono h (fun xv s₁ h₁ => ?_) fun _ _ e => e)
  refine wpAny_mono h₁ (fun it s₂ h₂ => ?_) fun _ _ e => e
  refine hid0 fun H9 hH9 => ?_
  obtain ⟨I, fp, wr, n, Pt, St, Mid, led, J, hit, hh, W, hpair, hsz, hst, hlive, F, N, hLf, hwr, hnw, h0, turn, fin⟩ := h₂
  refine hH9 ?_
  clear hH9 H9
  subst hit
  refine comp2_block W hh hpair hsz hcell hkind hx hx₂ hxx hst hlive F N hLf hwr hnw J h0 turn ?_
  intro D C h tk m' ys led₁ F' N' hD hlt hn hC₀ hD₀ hCL hDL hCD offC hlen hJ
  obtain ⟨a, o, ea, ho, hQ⟩ := fin D h tk ys led₁ N' hD hlt hlen hJ
  cases ea
  refine ⟨m', hn, fun h'' hs'' => hQ h'' (F'.change hs'' hCL hC₀) fun p hp => ?_⟩
  have z : h.get? p.1 = some p.2 ∧ p.1 ≠ L ∧ h₀.get? p.1 = none := by
    rcases List.mem_cons.mp hp with rfl | hp
    · exact ⟨ho, (N' _ List.mem_cons_self).2⟩
    · exact N' p (List.mem_cons_of_mem _ hp)
  refine ⟨hs''.extBut _ _ ?_ z.1, z.2⟩
  rcases List.mem_cons.mp hp with rfl | hp
  · exact Ne.symm hCD
  · exact offC p hp
theorem ListComp2A (_F₀ : Fr h₀ L s.heap m) {elt iter : Expr} {x x₂ : Str} {px px₂ tp : Pos} {kk : Nat} {y : Str} {py : Pos} {scope : Scope} {cl : List (Str × Addr)} {pos spos : Pos} {Q : Flow → Shared → Prop} (hLe : env.locals = L)
    (hsw : swapsWith (.ListComp elt [⟨.Tuple [.Name x px, .Name x₂ px₂] kk tp, iter, [], 0⟩] scope pos) (some (.Name y py)) spos.line env = pure true)
    (hclos : closureFor scope env = pure cl) (hcell : ∀ z ∈ scope.names, z.2 ≠ .cell) (hkind : scope.kind = .function)
    (hnames : ∀ z ∈ scope.names, z.2 = .local → scope.names.lookup z.1 = some .local) (hx : scope.names.lookup x = some .local) (hx₂ : scope.names.lookup x₂ = some .local) (hxx : ¬ x = x₂)
    (hy : env.kindOf y = some .local) (hp : (env.scope.kind == .class || (env.scope.kind == .module && env.locals != env.globals)) = false)
    (h : wpAny (model prog w) A (eval iter env) (IterA2 prog w A E h₀ L m env elt x x₂ scope cl y Q) E s)
    (hs : ∀ x, foldedSetIterable iter env x = pure x := by intro _; rfl) :
    wpAny (model prog w) A (exec (.Assign [.Name y py] (.ListComp elt [⟨.Tuple [.Name x px, .Name x₂ px₂] kk tp, iter, [], 0⟩] scope pos) spos) env) Q E s := by
  subst hLe
  rw [exec_Assign_Name_used _ _ _ _ hsw]
  refine wpAny_bind (wpAny_standAt (wpAny_bind ?_))
  show wpAny _ A (do let _ ← comprehension (.ListComp elt [⟨.Tuple [.Name x px, .Name x₂ px₂] kk tp, iter, [], 0⟩] scope pos) scope env _ (newList []) false (eval iter env) (some (assign (.Name y py) env))) _ _ s
  refine wpAny_bind (wpAny_mono (wpAny_comprehension_free (use := some (assign (.Name y py) env)) (Q := fun _ s' => Q .next s') rfl hs hclos hkind hnames
    (wpAny_mono h (fun xv s₁ h₁ => ?_) fun _ _ e => e)) (fun _ s' hq => wpAny_pure (wpAny_pure hq)) fun _ _ e => e)
  refine wpAny_mono h₁ (fun it s₂ h₂ => ?_) fun _ _ e => e
  refine hid0 fun H9 hH9 => ?_
  obtain ⟨I, fp, wr, n, Pt, St, Mid, led, J, hit, hh, W, hpair, hsz, hst, hlive, F, N, hLf, hwr, hnw, h0, turn, fin⟩ := h₂
  refine hH9 ?_
  clear hH9 H9
  subst hit
  refine comp2_block W hh hpair hsz hcell hkind hx hx₂ hxx hst hlive F N hLf hwr hnw J h0 turn ?_
  intro D C h tk m' ys led₁ F' N' hD hlt hn hC₀ hD₀ hCL hDL hCD offC hlen hJ
  obtain ⟨a, o, ea, ho, hQ⟩ := fin D h tk ys led₁ N' hD hlt hlen hJ
  cases ea
  show wpAny _ A (assign (.Name y py) env (.ref D)) _ _ _
  refine wpAny_assign_Name (wpAny_storeName_local hy F'.ns (fun h₂ hn₂ hs₂ => ?_) hp)
  have hL₀ : h₀.get? env.locals = none := Heap.get?_none_of_le F'.above
  have F₂ : Fr h₀ env.locals h₂ (fun z => if z = y then some (.ref D) else m z) := ⟨hn₂, fun b o e => hs₂.extBut b o (fun q => by rw [q, hL₀] at e; cases e) (F'.keep b o e), F'.above⟩
  refine ⟨m', hn.sameBut hs₂ hCL, fun h'' hs'' => hQ h'' _ (F₂.change hs'' hCL hC₀) fun p hp => ?_⟩
  have z : h.get? p.1 = some p.2 ∧ p.1 ≠ env.locals ∧ h₀.get? p.1 = none := by
    rcases List.mem_cons.mp hp with rfl | hp
    · exact ⟨ho, (N' _ List.mem_cons_self).2⟩
    · exact N' p (List.mem_cons_of_mem _ hp)
  have z₂ : h₂.get? p.1 = some p.2 := hs₂.extBut _ _ z.2.1 z.1
  refine ⟨hs''.extBut _ _ ?_ z₂, z.2⟩
  rcases List.mem_cons.mp hp with rfl | hp
  · exact Ne.symm hCD
  · exact offC p hp
end
end Mine
-- Iter
set_option maxHeartbeats 4000000
set_option maxRecDepth 100000
namespace Mine
open PySem PySem.Spec PySem.Calls PyProof.Rows PyProof.Rows.LCg
theorem zipApart_of (k l1 l2 : Nat) (h1 : l1 < k) (h2 : l2 < k) : ZipApart (k + 4) (k + 2) (k + 3) k (k + 1) l1 l2 := by
  constructor <;> (intro h; have h' : @Eq Nat _ _ := h; omega)
section
variable {prog : Program} {w : World} {A : Around} {E : Value → Shared → Prop} {s : Shared} {h₀ : Heap} {L : Addr} {m : Str → Option Value} {env : Env} {led : List (Addr × Obj)}
theorem IterE1.list {elt : Expr} {x : Str} {scope : Scope} {cl : List (Str × Addr)} {Q : Value → Shared → Prop} {ax : Addr} {its : Array Value} {k : Nat} (hh : A.handled = none) (F : Fr h₀ L s.heap m) (N : News h₀ L s.heap led) (hm : (ax, ({ cls := .type "list", data := .seq its k } : Obj)) ∈ led) (hsz : its.size ≤ sizeLine)
    (J : Nat → List Value → List (Addr × Obj) → Prop) (h0 : J 0 [] led)
    (turn : ∀ i v ys led₁ own C oC m₂ h tk (E' : Value → Shared → Prop), i < its.size → its[i]? = some v → J i ys led₁ → (C, oC) ∈ own → NsObj oC m₂ → m₂ x = some v → Fr h₀ L h m → News h₀ L h (own ++ led₁) →
      wpAny (model prog w) A (eval elt (compEnvC scope cl C env)) (CompOut h₀ L m { s with heap := h, toks := tk } own led₁ (fun y led₂ => J (i + 1) (ys ++ [y]) led₂)) E' { s with heap := h, toks := tk })
    (fin : ∀ D h tk ys led₁, Fr h₀ L h m → News h₀ L h ((D, lst ys) :: led₁) → (∀ p ∈ led₁, p.1 ≠ D) → (∀ p ∈ led, p.1 < D) → ys.length = its.size → J its.size ys led₁ → Q (.ref D) { s with heap := h, toks := tk }) :
    IterE1 prog w A E h₀ L m env elt x scope cl Q (.ref ax) s := by
  have hl : s.heap.IsList ax its := ⟨_, (N _ hm).1, rfl, _, rfl⟩
  have hne : ax ≠ s.heap.objs.size := Nat.ne_of_lt (Heap.lt_size (N _ hm).1)
  refine wpAny_pyIter_list hl ?_
  refine ⟨s.heap.objs.size, _, _, its.size, _, _, led, J, rfl, Walks.list hh s.heap.objs.size ax hne its, hsz, ⟨⟨_, Heap.get?_push_size _ rfl, rfl, rfl⟩, hl.push _⟩, ?_, F.push _, (fun p hp => ⟨Heap.get?_push_of_some _ (N p hp).1, (N p hp).2⟩), ?_, ?_, ?_, h0, ?_, ?_⟩
  · rintro i h ⟨⟨o, e, _⟩, o', e', _⟩ b hb
    rcases List.mem_cons.mp hb with rfl | hb
    · exact ⟨o, e⟩
    · rw [List.mem_singleton.mp hb]; exact ⟨o', e'⟩
  · intro hb
    rcases List.mem_cons.mp hb with e | hb
    · exact absurd F.ns.lt (e ▸ Nat.lt_irrefl _)
    · exact (N _ hm).2.1 (List.mem_singleton.mp hb).symm
  · intro b hb
    rw [List.mem_singleton.mp hb]
    exact next_is_new F
  · intro p hp hI
    exact absurd (Heap.lt_size (N p hp).1) ((List.mem_singleton.mp hI) ▸ Nat.lt_irrefl _)
  · exact fun i v ys led₁ own C oC m₂ h tk E' a b c d _ e => turn i v ys led₁ own C oC m₂ h tk E' a b c d e
  · intro D h tk ys led₁ N' hD hlt hlen hJ
    exact ⟨D, _, rfl, (N' _ List.mem_cons_self).1, fun h' F' N'' => fin D h' _ ys led₁ F' N'' hD hlt hlen hJ⟩
theorem IterA1.list {elt : Expr} {x : Str} {scope : Scope} {cl : List (Str × Addr)} {y : Str} {Q : Flow → Shared → Prop} {ax : Addr} {its : Array Value} {k : Nat} (hh : A.handled = none) (F : Fr h₀ L s.heap m) (N : News h₀ L s.heap led) (hm : (ax, ({ cls := .type "list", data := .seq its k } : Obj)) ∈ led) (hsz : its.size ≤ sizeLine)
    (J : Nat → List Value → List (Addr × Obj) → Prop) (h0 : J 0 [] led)
    (turn : ∀ i v ys led₁ own C oC m₂ h tk (E' : Value → Shared → Prop), i < its.size → its[i]? = some v → J i ys led₁ → (C, oC) ∈ own → NsObj oC m₂ → m₂ x = some v → Fr h₀ L h m → News h₀ L h (own ++ led₁) →
      wpAny (model prog w) A (eval elt (compEnvC scope cl C env)) (CompOut h₀ L m { s with heap := h, toks := tk } own led₁ (fun y led₂ => J (i + 1) (ys ++ [y]) led₂)) E' { s with heap := h, toks := tk })
    (fin : ∀ D h tk ys led₁, Fr h₀ L h (fun z => if z = y then some (.ref D) else m z) → News h₀ L h ((D, lst ys) :: led₁) → (∀ p ∈ led₁, p.1 ≠ D) → (∀ p ∈ led, p.1 < D) → ys.length = its.size → J its.size ys led₁ → Q .next { s with heap := h, toks := tk }) :
    IterA1 prog w A E h₀ L m env elt x scope cl y Q (.ref ax) s := by
  have hl : s.heap.IsList ax its := ⟨_, (N _ hm).1, rfl, _, rfl⟩
  have hne : ax ≠ s.heap.objs.size := Nat.ne_of_lt (Heap.lt_size (N _ hm).1)
  refine wpAny_pyIter_list hl ?_
  refine ⟨s.heap.objs.size, _, _, its.size, _, _, led, J, rfl, Walks.list hh s.heap.objs.size ax hne its, hsz, ⟨⟨_, Heap.get?_push_size _ rfl, rfl, rfl⟩, hl.push _⟩, ?_, F.push _, (fun p hp => ⟨Heap.get?_push_of_some _ (N p hp).1, (N p hp).2⟩), ?_, ?_, ?_, h0, ?_, ?_⟩
  · rintro i h ⟨⟨o, e, _⟩, o', e', _⟩ b hb
    rcases List.mem_cons.mp hb with rfl | hb
    · exact ⟨o, e⟩
    · rw [List.mem_singleton.mp hb]; exact ⟨o', e'⟩
  · intro hb
    rcases List.mem_cons.mp hb with e | hb
    · exact absurd F.ns.lt (e ▸ Nat.lt_irrefl _)
    · exact (N _ hm).2.1 (List.mem_singleton.mp hb).symm
  · intro b hb
    rw [List.mem_singleton.mp hb]
    exact next_is_new F
  · intro p hp hI
    exact absurd (Heap.lt_size (N p hp).1) ((List.mem_singleton.mp hI) ▸ Nat.lt_irrefl _)
  · exact fun i v ys led₁ own C oC m₂ h tk E' a b c d _ e => turn i v ys led₁ own C oC m₂ h tk E' a b c d e
  · intro D h tk ys led₁ N' hD hlt hlen hJ
    exact ⟨D, _, rfl, (N' _ List.mem_cons_self).1, fun h' tk' F' N'' => fin D h' _ ys led₁ F' N'' hD hlt hlen hJ⟩
theorem zip_cmp2 {elt : Expr} {x x₂ : Str} {scope : Scope} {cl : List (Str × Addr)} {Fin : Shared → Value → Heap → Nat → List (Addr × Obj) → Prop} {l1 l2 : Addr} {xs ys : Array Value} {k1 k2 : Nat} (hh : A.handled = none) (F : Fr h₀ L s.heap m) (N : News h₀ L s.heap led)
    (hm1 : (l1, ({ cls := .type "list", data := .seq xs k1 } : Obj)) ∈ led) (hm2 : (l2, ({ cls := .type "list", data := .seq ys k2 } : Obj)) ∈ led) (hsz : xs.size ≤ sizeLine)
    (J : Nat → List Value → List (Addr × Obj) → Prop) (h0 : J 0 [] led)
    (turn : ∀ i v v₂ zs led₁ own C oC m₂ h tk (E' : Value → Shared → Prop), i < min xs.size ys.size → xs[i]? = some v → ys[i]? = some v₂ → J i zs led₁ → (C, oC) ∈ own → NsObj oC m₂ → m₂ x = some v → m₂ x₂ = some v₂ → Fr h₀ L h m → News h₀ L h (own ++ led₁) →
      wpAny (model prog w) A (eval elt (compEnvC scope cl C env)) (CompOut h₀ L m { s with heap := h, toks := tk } own led₁ (fun y led₂ => J (i + 1) (zs ++ [y]) led₂)) E' { s with heap := h, toks := tk })
    (fin : ∀ g D h tk zs led₁, News h₀ L h ((D, lst zs) :: led₁) → (∀ p ∈ led₁, p.1 ≠ D) → (∀ p ∈ led, p.1 < D) → zs.length = min xs.size ys.size → J (min xs.size ys.size) zs led₁ → Fin { s with heap := g } (.ref D) h tk led₁) :
    wpAny (model prog w) A (call (.type "zip") [.ref l1, .ref l2]) (fun xv s₁ => wpAny (model prog w) A (pyIter xv) (fun it s₂ => Cmp2 prog w A h₀ L m env elt x x₂ scope cl (Fin s₂) it s₂) E s₁) E s := by
  have hl1 : s.heap.IsList l1 xs := ⟨_, (N _ hm1).1, rfl, _, rfl⟩
  have hl2 : s.heap.IsList l2 ys := ⟨_, (N _ hm2).1, rfl, _, rfl⟩
  have lt1 : l1 < s.heap.objs.size := Heap.lt_size (N _ hm1).1
  have lt2 : l2 < s.heap.objs.size := Heap.lt_size (N _ hm2).1
  have ltL : L < s.heap.objs.size := F.ns.lt
  refine call_zip_2 hl1 hl2 fun h' hz hTI hTO h1 h2 hsz' hk => ?_
  refine wpAny_pyIter_zip hz ?_
  have D := zipApart_of s.heap.objs.size l1 l2 lt1 lt2
  have hLk : ∀ j : Nat, L ≠ s.heap.objs.size + j := fun j => Nat.ne_of_lt (Nat.lt_of_lt_of_le ltL (Nat.le_add_right _ _))
  have hnew : ∀ j : Nat, h₀.get? (s.heap.objs.size + j) = none := fun j => Heap.get?_none_of_le (Nat.le_trans (Nat.le_of_lt (Nat.lt_of_le_of_lt F.above ltL)) (Nat.le_add_right _ _))
  have W := (WalksT.zip2 (prog := prog) (w := w) hh _ _ _ _ _ _ _ D xs ys).toU
  refine ⟨_, _, _, _, _, _, _, led, J, rfl, hh, W, (fun i vals ⟨a, b, _, _, e⟩ => ⟨a, b, e⟩), Nat.le_trans (Nat.min_le_left ..) hsz, ⟨hz, hTI, ⟨_, _, hTO⟩, h1, h2, hl1.at fun o e => hk _ o e, hl2.at fun o e => hk _ o e⟩, ?_, F.keeps hk, N.grown hk, ?_, ?_, ?_, h0, ?_, ?_⟩
  · rintro i h ⟨a1, a2, ⟨_, _, a3⟩, ⟨o4, a4, _⟩, ⟨o5, a5, _⟩, ⟨o6, a6, _⟩, o7, a7, _⟩ b hb
    simp only [List.mem_cons, List.not_mem_nil, or_false] at hb
    rcases hb with rfl | rfl | rfl | rfl | rfl | rfl | rfl
    · exact ⟨_, a1⟩
    · exact ⟨_, a2⟩
    · exact ⟨_, a3⟩
    · exact ⟨_, a4⟩
    · exact ⟨_, a5⟩
    · exact ⟨_, a6⟩
    · exact ⟨_, a7⟩
  · intro hb
    simp only [List.mem_cons, List.not_mem_nil, or_false] at hb
    rcases hb with e | e | e | e | e | e | e
    · exact hLk 4 e
    · exact hLk 2 e
    · exact hLk 3 e
    · exact hLk 0 e
    · exact hLk 1 e
    · exact (N _ hm1).2.1 e.symm
    · exact (N _ hm2).2.1 e.symm
  · intro b hb
    simp only [List.mem_cons, List.not_mem_nil, or_false] at hb
    rcases hb with rfl | rfl | rfl | rfl
    · exact hnew 4
    · exact hnew 3
    · exact hnew 0
    · exact hnew 1
  · intro p hp hI
    have hlt : p.1 < s.heap.objs.size := Heap.lt_size (N p hp).1
    simp only [List.mem_cons, List.not_mem_nil, or_false] at hI
    have no : ∀ j : Nat, p.1 ≠ s.heap.objs.size + j := fun j => Nat.ne_of_lt (Nat.lt_of_lt_of_le hlt (Nat.le_add_right _ _))
    rcases hI with e | e | e | e
    · exact no 4 e
    · exact no 3 e
    · exact no 0 e
    · exact no 1 e
  · rintro i v v₂ zs led₁ own C oC m₂ h tk E' hi ⟨a, b, ha, hb, e⟩
    have e' : [v, v₂] = [a, b] := congrArg Array.toList e
    injection e' with e1 e2
    injection e2 with e2
    subst e1 e2
    exact turn i v v₂ zs led₁ own C oC m₂ h tk E' hi ha hb
  · exact fun D h tk zs led₁ N' hD hlt hlen hJ => fin _ D h tk zs led₁ N' hD hlt hlen hJ
theorem IterE2.zip {elt : Expr} {x x₂ : Str} {scope : Scope} {cl : List (Str × Addr)} {Q : Value → Shared → Prop} {l1 l2 : Addr} {xs ys : Array Value} {k1 k2 : Nat} (hh : A.handled = none) (F : Fr h₀ L s.heap m) (N : News h₀ L s.heap led)
    (hm1 : (l1, ({ cls := .type "list", data := .seq xs k1 } : Obj)) ∈ led) (hm2 : (l2, ({ cls := .type "list", data := .seq ys k2 } : Obj)) ∈ led) (hsz : xs.size ≤ sizeLine)
    (J : Nat → List Value → List (Addr × Obj) → Prop) (h0 : J 0 [] led)
    (turn : ∀ i v v₂ zs led₁ own C oC m₂ h tk (E' : Value → Shared → Prop), i < min xs.size ys.size → xs[i]? = some v → ys[i]? = some v₂ → J i zs led₁ → (C, oC) ∈ own → NsObj oC m₂ → m₂ x = some v → m₂ x₂ = some v₂ → Fr h₀ L h m → News h₀ L h (own ++ led₁) →
      wpAny (model prog w) A (eval elt (compEnvC scope cl C env)) (CompOut h₀ L m { s with heap := h, toks := tk } own led₁ (fun y led₂ => J (i + 1) (zs ++ [y]) led₂)) E' { s with heap := h, toks := tk })
    (fin : ∀ D h tk zs led₁, Fr h₀ L h m → News h₀ L h ((D, lst zs) :: led₁) → (∀ p ∈ led₁, p.1 ≠ D) → (∀ p ∈ led, p.1 < D) → zs.length = min xs.size ys.size → J (min xs.size ys.size) zs led₁ → Q (.ref D) { s with heap := h, toks := tk }) :
    wpAny (model prog w) A (call (.type "zip") [.ref l1, .ref l2]) (IterE2 prog w A E h₀ L m env elt x x₂ scope cl Q) E s :=
  zip_cmp2 (Fin := fun s₂ => FinOfE h₀ L m s₂ Q) hh F N hm1 hm2 hsz J h0 turn fun g D h tk zs led₁ N' hD hlt hlen hJ => ⟨D, _, rfl, (N' _ List.mem_cons_self).1, fun h' F' N'' => fin D h' _ zs led₁ F' N'' hD hlt hlen hJ⟩
theorem IterA2.zip {elt : Expr} {x x₂ : Str} {scope : Scope} {cl : List (Str × Addr)} {y : Str} {Q : Flow → Shared → Prop} {l1 l2 : Addr} {xs ys : Array Value} {k1 k2 : Nat} (hh : A.handled = none) (F : Fr h₀ L s.heap m) (N : News h₀ L s.heap led)
    (hm1 : (l1, ({ cls := .type "list", data := .seq xs k1 } : Obj)) ∈ led) (hm2 : (l2, ({ cls := .type "list", data := .seq ys k2 } : Obj)) ∈ led) (hsz : xs.size ≤ sizeLine)
    (J : Nat → List Value → List (Addr × Obj) → Prop) (h0 : J 0 [] led)
    (turn : ∀ i v v₂ zs led₁ own C oC m₂ h tk (E' : Value → Shared → Prop), i < min xs.size ys.size → xs[i]? = some v → ys[i]? = some v₂ → J i zs led₁ → (C, oC) ∈ own → NsObj oC m₂ → m₂ x = some v → m₂ x₂ = some v₂ → Fr h₀ L h m → News h₀ L h (own ++ led₁) →
      wpAny (model prog w) A (eval elt (compEnvC scope cl C env)) (CompOut h₀ L m { s with heap := h, toks := tk } own led₁ (fun y led₂ => J (i + 1) (zs ++ [y]) led₂)) E' { s with heap := h, toks := tk })
    (fin : ∀ D h tk zs led₁, Fr h₀ L h (fun z => if z = y then some (.ref D) else m z) → News h₀ L h ((D, lst zs) :: led₁) → (∀ p ∈ led₁, p.1 ≠ D) → (∀ p ∈ led, p.1 < D) → zs.length = min xs.size ys.size → J (min xs.size ys.size) zs led₁ → Q .next { s with heap := h, toks := tk }) :
    wpAny (model prog w) A (call (.type "zip") [.ref l1, .ref l2]) (IterA2 prog w A E h₀ L m env elt x x₂ scope cl y Q) E s :=
  zip_cmp2 (Fin := fun s₂ => FinOfA h₀ L m y s₂ Q) hh F N hm1 hm2 hsz J h0 turn fun g D h tk zs led₁ N' hD hlt hlen hJ => ⟨D, _, rfl, (N' _ List.mem_cons_self).1, fun h' tk' F' N'' => fin D h' _ zs led₁ F' N'' hD hlt hlen hJ⟩
end
end Mine
-- RowLib
set_option maxRecDepth 100000
namespace Mine
open PySem PySem.Spec PySem.Calls PyProof.Rows PyProof.Rows.LCg PySem.W

/-- the values of a row, each the fraction beside it -/
inductive Cells (led : List (Addr × Obj)) : List Value → List Rat → Prop
  | nil : Cells led [] []
  | cons {a : Addr} {q : Rat} {t u : Tok} {cs : List Value} {qs : List Rat} : (a, ({ cls := .type "tuple", data := .seq #[.int q.num t, .int (q.den : Nat) u] } : Obj)) ∈ led → Cells led cs qs → Cells led (.ref a :: cs) (q :: qs)
theorem Cells.mono {led led' : List (Addr × Obj)} {cs : List Value} {qs : List Rat} (h : Cells led cs qs) (hs : ∀ p ∈ led, p ∈ led') : Cells led' cs qs := by
  induction h with
  | nil => exact .nil
  | cons hm _ ih => exact .cons (hs _ hm) ih
theorem Cells.length {led : List (Addr × Obj)} {cs : List Value} {qs : List Rat} (h : Cells led cs qs) : cs.length = qs.length := by
  induction h with
  | nil => rfl
  | cons _ _ ih => simp [ih]
theorem Cells.get {led : List (Addr × Obj)} {cs : List Value} {qs : List Rat} (h : Cells led cs qs) : ∀ {i : Nat} {v : Value}, cs[i]? = some v →
    ∃ a q t u, v = .ref a ∧ (a, ({ cls := .type "tuple", data := .seq #[.int (q : Rat).num t, .int (q.den : Nat) u] } : Obj)) ∈ led ∧ qs[i]? = some q := by
  induction h with
  | nil => intro i v e; cases e
  | @cons a q t u cs qs hm _ ih =>
    intro i v e
    cases i with
    | zero => cases e; exact ⟨a, q, t, u, rfl, hm, rfl⟩
    | succ i => obtain ⟨a', q', t', u', h1, h2, h3⟩ := ih e; exact ⟨a', q', t', u', h1, h2, h3⟩
theorem Cells.snoc {led : List (Addr × Obj)} {cs : List Value} {qs : List Rat} {a : Addr} {q : Rat} {t u : Tok} (h : Cells led cs qs) (hm : (a, ({ cls := .type "tuple", data := .seq #[.int q.num t, .int (q.den : Nat) u] } : Obj)) ∈ led) : Cells led (cs ++ [.ref a]) (qs ++ [q]) := by
  induction h with
  | nil => exact .cons hm .nil
  | cons hm' _ ih => exact .cons hm' ih
/-- what stands behind a call: the elder ledger with new things above it -/
def Ext (led led' : List (Addr × Obj)) : Prop := ∃ tl, led' = tl ++ led ∧ ∀ p ∈ tl, ∀ q ∈ led, q.1 < p.1
theorem lt_of_all {d : Addr} {l : List (Addr × Obj)} (h : AllLt d l) : ∀ p ∈ l, p.1 < d := ktn_ltOf h
theorem compOut_one {h₀ : Heap} {L x : Addr} {o : Obj} {m : Str → Option Value} {s₁ : Shared} {own led₁ rest : List (Addr × Obj)} {J : Value → List (Addr × Obj) → Prop} {h' : Heap} {tk : Nat}
    (F : Fr h₀ L h' m) (N : News h₀ L h' ((x, o) :: rest)) (hsub : ∀ p ∈ own ++ led₁, p ∈ rest) (hlt : AllLt x rest) (hJ : J (.ref x) ((x, o) :: led₁)) : CompOut h₀ L m s₁ own led₁ J (.ref x) { s₁ with heap := h', toks := tk } := by
  refine ⟨h', tk, (x, o) :: led₁, rfl, F, fun p hp => N p ?_, fun p hp => ?_, hJ⟩
  · rcases List.mem_append.mp hp with hp | hp
    · exact List.mem_cons_of_mem _ (hsub p (List.mem_append_left _ hp))
    · rcases List.mem_cons.mp hp with rfl | hp
      · exact List.mem_cons_self
      · exact List.mem_cons_of_mem _ (hsub p (List.mem_append_right _ hp))
  · rcases List.mem_cons.mp hp with rfl | hp
    · exact .inr fun q hq => lt_of_all hlt q (hsub q (List.mem_append_left _ hq))
    · exact .inl ⟨p, hp, rfl⟩
theorem compOut_same {h₀ : Heap} {L : Addr} {m : Str → Option Value} {s₁ : Shared} {own led₁ rest : List (Addr × Obj)} {J : Value → List (Addr × Obj) → Prop} {h' : Heap} {tk : Nat} {v : Value}
    (F : Fr h₀ L h' m) (N : News h₀ L h' rest) (hsub : ∀ p ∈ own ++ led₁, p ∈ rest) (hJ : J v led₁) : CompOut h₀ L m s₁ own led₁ J v { s₁ with heap := h', toks := tk } :=
  ⟨h', tk, led₁, rfl, F, fun p hp => N p (hsub p hp), fun p hp => .inl ⟨p, hp, rfl⟩, hJ⟩

/-- a row that stands in the ledger as a list of fractions -/
def RowIn (led : List (Addr × Obj)) (v : Value) (qs : List Rat) : Prop := ∃ r k cs, v = .ref r ∧ (r, ({ cls := .type "list", data := .seq (List.toArray cs) k } : Obj)) ∈ led ∧ Cells led cs qs
theorem RowIn.mono {led led' : List (Addr × Obj)} {v : Value} {qs : List Rat} (h : RowIn led v qs) (hs : ∀ p ∈ led, p ∈ led') : RowIn led' v qs := by
  obtain ⟨r, k, cs, e, hm, hc⟩ := h
  exact ⟨r, k, cs, e, hs _ hm, hc.mono hs⟩
def Qbs (k : Nat) (qs : List Rat) : Prop := ∀ q ∈ qs, Qb k q
theorem take_zip_succ {f : Rat → Rat → Rat} {ps qs : List Rat} {i : Nat} {p q : Rat} (hp : ps[i]? = some p) (hq : qs[i]? = some q) :
    List.zipWith f (ps.take (i + 1)) (qs.take (i + 1)) = List.zipWith f (ps.take i) (qs.take i) ++ [f p q] := by
  have h1 : ps.take (i + 1) = ps.take i ++ [p] := by rw [List.take_add_one, hp]; rfl
  have h2 : qs.take (i + 1) = qs.take i ++ [q] := by rw [List.take_add_one, hq]; rfl
  rw [h1, h2]
  have hi : i < ps.length := (List.getElem?_eq_some_iff.mp hp).1
  have hi' : i < qs.length := (List.getElem?_eq_some_iff.mp hq).1
  rw [List.zipWith_append (by rw [List.length_take, List.length_take]; omega)]
  rfl
theorem take_map_succ {f : Rat → Rat} {ps : List Rat} {i : Nat} {p : Rat} (hp : ps[i]? = some p) : (ps.take (i + 1)).map f = (ps.take i).map f ++ [f p] := by
  rw [List.take_add_one, hp, List.map_append]; rfl
theorem zip_take_all {f : Rat → Rat → Rat} {ps qs : List Rat} : List.zipWith f (ps.take (min ps.length qs.length)) (qs.take (min ps.length qs.length)) = List.zipWith f ps qs := by
  rw [← List.take_zipWith, List.take_of_length_le]
  rw [List.length_zipWith]
  exact Nat.le_refl _
end Mine
-- Loop
set_option maxHeartbeats 4000000
set_option maxRecDepth 100000
namespace Mine
open PySem PySem.Spec PySem.Calls PyProof.Rows PyProof.Rows.LCg PySem.W

/-- the end of a turn of a for -/
def ForOut (h₀ : Heap) (L : Addr) (own led₁ : List (Addr × Obj)) (J : (Str → Option Value) → List (Addr × Obj) → Prop) (s₁ : Shared) (Q : Flow → Shared → Prop) (f : Flow) (s₂ : Shared) : Prop :=
  match f with
  | .ret v => Q (.ret v) s₂
  | .brk => Q .next s₂
  | _ => ∃ h' tk m₂ led₂, s₂ = { s₁ with heap := h', toks := tk } ∧ Fr h₀ L h' m₂ ∧ News h₀ L h' (own ++ led₂) ∧ (∀ p ∈ led₂, (∃ q ∈ led₁, q.1 = p.1) ∨ ∀ q ∈ own, q.1 < p.1) ∧ J m₂ led₂

section
variable {prog : Program} {w : World} {A : Around} {E : Value → Shared → Prop} {s : Shared} {h₀ : Heap} {env : Env} {x : Str} {body : List Stmt} {Q : Flow → Shared → Prop} {m : Str → Option Value} {led : List (Addr × Obj)}
def IterF (prog : Program) (w : World) (A : Around) (E : Value → Shared → Prop) (h₀ : Heap) (env : Env) (x : Str) (body : List Stmt) (Q : Flow → Shared → Prop) (xv : Value) (s₁ : Shared) : Prop :=
  wpAny (model prog w) A (pyIter xv) (fun it s₂ => LoopAtV prog w A h₀ env x body Q E it s₂) E s₁
theorem ForF {px pos : Pos} {iter : Expr} (_F : Fr h₀ env.locals s.heap m) (hx : env.kindOf x = some .local)
    (hp : (env.scope.kind == .class || (env.scope.kind == .module && env.locals != env.globals)) = false)
    (hE : PassesOwn (model prog w) A env E)
    (h : wpAny (model prog w) A (eval iter env) (IterF prog w A E h₀ env x body Q) E s)
    (hs : ∀ x, foldedSetIterable iter env x = pure x := by intro _; rfl) :
    wpAny (model prog w) A (exec (.For (.Name x px) iter body [] pos) env) Q E s := For_invV h₀ hx hp h hs hE
theorem IterF.range {r : Addr} {a b : Int} {t u v' : Tok} {n : Nat} (hh : A.handled = none) (F : Fr h₀ env.locals s.heap m) (N : News h₀ env.locals s.heap led) (hr : IsRange s.heap r a b 1 t u v') (hsm : Builtin.Range.small a b 1 = true) (hn : Builtin.Range.rangeSize a b 1 = ((n : Nat) : Int))
    (J : Nat → (Str → Option Value) → List (Addr × Obj) → Prop) (h0 : J 0 m led)
    (turn : ∀ i t m₁ led₁ own h tk, i < n → J i m₁ led₁ → (∀ p ∈ led₁, ∀ q ∈ own, p.1 ≠ q.1) → (∀ q ∈ own, q.2.cls = .type "range_iterator") → Fr h₀ env.locals h (fun y => if y = x then some (.int (a + (i : Int)) t) else m₁ y) → News h₀ env.locals h (own ++ led₁) →
      wpAny (model prog w) A (execs body env) (ForOut h₀ env.locals own led₁ (J (i + 1)) { s with heap := h, toks := tk } Q) E { s with heap := h, toks := tk })
    (done : ∀ h tk m₁ led₁, J n m₁ led₁ → Fr h₀ env.locals h m₁ → News h₀ env.locals h led₁ → Q .next { s with heap := h, toks := tk }) :
    IterF prog w A E h₀ env x body Q (.ref r) s := by
  refine wpAny_pyIter_range hr hsm ?_
  refine ⟨s.heap.objs.size, _, _, n, _, _, m, led, J, rfl, range_walks hh a n, ?_, ?_, ?_, (by show IsRangeIter _ _ _ _ _; rw [hn]; simpa using Heap.get?_push_size _ rfl), F.push _, (fun p hp => ⟨Heap.get?_push_of_some _ (N p hp).1, (N p hp).2⟩), h0, ?_, ?_⟩
  · intro hm
    exact absurd F.ns.lt ((List.mem_singleton.mp hm) ▸ Nat.lt_irrefl _)
  · intro b hb
    rw [List.mem_singleton.mp hb]
    exact next_is_new F
  · intro p hp hI
    exact absurd (Heap.lt_size (N p hp).1) ((List.mem_singleton.mp hI) ▸ Nat.lt_irrefl _)
  · rintro i v m₁ led₁ s₁ own ⟨h, tk, rfl⟩ hi ⟨t', rfl⟩ hJ hnw hown hown2 hlive hst F₁ N₁
    have hI₀ : h₀.get? s.heap.objs.size = none := next_is_new F
    have hIown : (s.heap.objs.size, _) ∈ own := hlive _ (List.mem_singleton.mpr rfl) hI₀ _ hst
    refine wpAny_mono (turn i t' m₁ led₁ own h tk hi hJ (fun p hp q hq e => hnw p hp (by rw [e]; exact hown q hq)) (fun q hq => by have h1 := hown2 q hq; rw [List.mem_singleton.mp (hown q hq)] at h1; have h2 : some q.2 = some _ := h1.symm.trans hst; rw [Option.some.inj h2]) F₁ N₁) (fun f s₂ q => ?_) fun _ _ e => e
    cases f with
    | ret v => exact .ret q
    | brk => exact .brk q
    | next =>
      obtain ⟨h', tk', m₂, led₂, rfl, F₂, N₂, off, hJ₂⟩ := q
      refine .next ⟨rfl, h', tk', m₂, led₂, rfl, F₂, N₂, fun p hp hI => ?_, hJ₂⟩
      rcases off p hp with ⟨q, hq, e⟩ | hall
      · exact hnw q hq (by rw [e]; exact hI)
      · exact absurd (hall _ hIown) (by rw [List.mem_singleton.mp hI]; exact Nat.lt_irrefl _)
    | cont =>
      obtain ⟨h', tk', m₂, led₂, rfl, F₂, N₂, off, hJ₂⟩ := q
      refine .cont ⟨rfl, h', tk', m₂, led₂, rfl, F₂, N₂, fun p hp hI => ?_, hJ₂⟩
      rcases off p hp with ⟨q, hq, e⟩ | hall
      · exact hnw q hq (by rw [e]; exact hI)
      · exact absurd (hall _ hIown) (by rw [List.mem_singleton.mp hI]; exact Nat.lt_irrefl _)
  · rintro h' tk m' led' F' N' _ hJ
    exact done h' tk m' led' hJ F' N'

theorem small_of {a b : Int} {n : Nat} (ha : 0 ≤ a) (hb : b < 2 ^ 30) (hn : (n : Int) = b - a) : Builtin.Range.small a b 1 = true ∧ Builtin.Range.rangeSize a b 1 = ((n : Nat) : Int) := by
  have e : Builtin.Range.rangeSize a b 1 = ((n : Nat) : Int) := by
    rw [rangeSize_one]
    split <;> omega
  exact ⟨small_one (by omega) (by omega) (by omega) (by omega), e⟩
/-- an item of a list at an index that is shown to lie within -/
theorem item_at {value slice : Expr} {l : Addr} {vs : List Value} {k : Int} {c : Nat} {u : Tok} {v : Value} {L : Addr} {Q : Value → Shared → Prop} (N : News h₀ L s.heap led) (hm : (l, ({ cls := .type "list", data := .seq vs.toArray c } : Obj)) ∈ led)
    (hx : vs[k.toNat]? = some v) (h0 : 0 ≤ k) (hhi : k < 2 ^ 63) (h : Q v s)
    (hs : subscripted slice false (.ref l) (.int k u) = operate [.ref l, .int k u] (getItem (.ref l) (.int k u)) := by with_unfolding_all rfl) :
    wpAny (model prog w) A (subscriptTail value slice (.ref l) (.int k u)) Q E s :=
  have hl : s.heap.IsList l vs.toArray := ⟨_, (N _ hm).1, rfl, _, rfl⟩
  tail_any hl.typeIs slot_list_getitem.lookup (wpAny_getItem_list hl h0 hhi (by simpa using hx) h) hs
end
theorem fr_known {h₀ h : Heap} {L : Addr} {m : Str → Option Value} {x : Str} {v : Value} (F : Fr h₀ L h m) (e : m x = some v) : Fr h₀ L h (fun z => if z = x then some v else m z) := by
  have : (fun z => if z = x then some v else m z) = m := by
    funext z
    by_cases hz : z = x
    · subst hz; simp [e]
    · simp [hz]
  rw [this]; exact F
/-- rows that stand in the ledger -/
def Rows (led : List (Addr × Obj)) (rs : List Value) (M : List (List Rat)) : Prop := rs.length = M.length ∧ ∀ (i : Nat) (v : Value), rs[i]? = some v → ∃ qs, M[i]? = some qs ∧ RowIn led v qs
theorem Rows.mono {led led' : List (Addr × Obj)} {rs : List Value} {M : List (List Rat)} (h : Rows led rs M) (hs : ∀ p ∈ led, p ∈ led') : Rows led' rs M :=
  ⟨h.1, fun i v e => by obtain ⟨qs, h1, h2⟩ := h.2 i v e; exact ⟨qs, h1, h2.mono hs⟩⟩
theorem Rows.at {led : List (Addr × Obj)} {rs : List Value} {M : List (List Rat)} (h : Rows led rs M) {i : Nat} {qs : List Rat} (e : M[i]? = some qs) : ∃ v, rs[i]? = some v ∧ RowIn led v qs := by
  have hi : i < rs.length := by rw [h.1]; exact (List.getElem?_eq_some_iff.mp e).1
  obtain ⟨qs', h1, h2⟩ := h.2 i rs[i] (List.getElem?_eq_getElem hi)
  rw [e] at h1
  cases h1
  exact ⟨rs[i], List.getElem?_eq_getElem hi, h2⟩
theorem Rows.set {led : List (Addr × Obj)} {rs : List Value} {M : List (List Rat)} (h : Rows led rs M) {i : Nat} {v : Value} {qs : List Rat} (hr : RowIn led v qs) : Rows led (rs.set i v) (M.set i qs) := by
  refine ⟨by rw [List.length_set, List.length_set, h.1], fun j v' e => ?_⟩
  by_cases hij : i = j
  · subst hij
    by_cases hi : i < rs.length
    · rw [List.getElem?_set_self hi] at e
      cases e
      exact ⟨qs, List.getElem?_set_self (by rw [← h.1]; exact hi), hr⟩
    · rw [List.set_eq_of_length_le (by omega)] at e
      exact absurd (List.getElem?_eq_some_iff.mp e).1 hi
  · rw [List.getElem?_set_ne hij] at e ⊢
    exact h.2 j v' e
theorem Cells.at {led : List (Addr × Obj)} {cs : List Value} {qs : List Rat} (h : Cells led cs qs) {i : Nat} {q : Rat} (e : qs[i]? = some q) :
    ∃ a t u, cs[i]? = some (.ref a) ∧ (a, ({ cls := .type "tuple", data := .seq #[.int q.num t, .int (q.den : Nat) u] } : Obj)) ∈ led := by
  have hi : i < cs.length := by rw [h.length]; exact (List.getElem?_eq_some_iff.mp e).1
  obtain ⟨a, q', t, u, h1, h2, h3⟩ := h.get (List.getElem?_eq_getElem hi)
  rw [e] at h3
  cases h3
  exact ⟨a, t, u, by rw [List.getElem?_eq_getElem hi, h1], h2⟩
/-- the first row from `at` on whose cell in that column is not nought; k rows looked at -/
noncomputable def pivotIn (M : List (List Rat)) (c : Nat) : Nat → Nat → Option Nat
  | 0, _ => none
  | k + 1, i => if ((M.getD i []).getD c 0) ≠ 0 then some i else pivotIn M c k (i + 1)
theorem pivotIn_hit {M : List (List Rat)} {c k i : Nat} {qs : List Rat} {q : Rat} (h1 : M[i]? = some qs) (h2 : qs[c]? = some q) (hq : q ≠ 0) : pivotIn M c (k + 1) i = some i := by
  have e : (M.getD i []).getD c 0 = q := by rw [List.getD_eq_getElem?_getD, List.getD_eq_getElem?_getD, h1, Option.getD_some, h2, Option.getD_some]
  unfold pivotIn
  rw [e, if_pos hq]
theorem pivotIn_miss {M : List (List Rat)} {c k i : Nat} {qs : List Rat} {q : Rat} (h1 : M[i]? = some qs) (h2 : qs[c]? = some q) (hq : q = 0) : pivotIn M c (k + 1) i = pivotIn M c k (i + 1) := by
  have e : (M.getD i []).getD c 0 = q := by rw [List.getD_eq_getElem?_getD, List.getD_eq_getElem?_getD, h1, Option.getD_some, h2, Option.getD_some]
  conv => lhs; unfold pivotIn
  rw [e, if_neg (not_not_intro hq)]
theorem forOut_same {h₀ : Heap} {L : Addr} {own led₁ rest : List (Addr × Obj)} {J : (Str → Option Value) → List (Addr × Obj) → Prop} {s₁ : Shared} {Q : Flow → Shared → Prop} {h' : Heap} {tk : Nat} {m₂ : Str → Option Value}
    (F : Fr h₀ L h' m₂) (N : News h₀ L h' rest) (hs : ∀ p ∈ own ++ led₁, p ∈ rest) (hJ : J m₂ led₁) : ForOut h₀ L own led₁ J s₁ Q .next { s₁ with heap := h', toks := tk } :=
  ⟨h', tk, m₂, led₁, rfl, F, fun p hp => N p (hs p hp), fun p hp => .inl ⟨p, hp, rfl⟩, hJ⟩
end Mine
-- Solve
set_option maxRecDepth 100000
namespace Mine
open PySem PySem.Spec PySem.Calls PyProof.Rows PyProof.Rows.LCg PySem.W PySem.Builtin.Int

abbrev Mat := List (List Rat)
noncomputable def cellM (M : Mat) (i j : Nat) : Rat := (M.getD i []).getD j 0
noncomputable def clearOne (c : Nat) (M : Mat) (o : Nat) : Mat :=
  if o ≠ c ∧ cellM M o c ≠ 0 then M.set o (List.zipWith (fun p q => p - cellM M o c * q) (M.getD o []) (M.getD c [])) else M
noncomputable def clearTo (c : Nat) (M : Mat) : Nat → Mat
  | 0 => M
  | j + 1 => clearOne c (clearTo c M j) j
noncomputable def swapM (M : Mat) (i j : Nat) : Mat := (M.set i (M.getD j [])).set j (M.getD i [])
noncomputable def normM (c : Nat) (M : Mat) : Mat := M.set c ((M.getD c []).map (· / cellM M c c))
noncomputable def turnM (n c : Nat) (M : Mat) (t : Rat) : Option (Mat × Rat) :=
  match pivotIn M c (M.length - c) c with
  | none => none
  | some p =>
    let M₁ := if p = c then M else swapM M c p
    let t₁ := if p = c then t else -t
    some (clearTo c (normM c M₁) n, t₁ * cellM M₁ c c)
noncomputable def solveM (n : Nat) : Nat → Nat → Mat → Rat → Mat × Rat
  | 0, _, M, t => (M, t)
  | k + 1, c, M, t => match turnM n c M t with
    | none => (M, 0)
    | some (M', t') => solveM n k (c + 1) M' t'

def Wide (n w : Nat) (M : Mat) : Prop := M.length = n ∧ ∀ qs ∈ M, qs.length = w
def Mbits (k : Nat) (M : Mat) : Prop := ∀ qs ∈ M, Qbs k qs
theorem Qb.neg {k : Nat} {q : Rat} (h : Qb k q) : Qb k (-q) := ⟨by rw [Rat.neg_num]; exact intBits_neg_le h.1, by rw [Rat.neg_den]; exact h.2⟩
theorem Wide.row {n w : Nat} {M : Mat} (h : Wide n w M) {i : Nat} (hi : i < n) : ∃ qs, M[i]? = some qs ∧ qs.length = w ∧ M.getD i [] = qs := by
  have hi' : i < M.length := by rw [h.1]; exact hi
  exact ⟨M[i], List.getElem?_eq_getElem hi', h.2 _ (List.getElem_mem hi'), by rw [List.getD_eq_getElem?_getD, List.getElem?_eq_getElem hi']; rfl⟩
theorem Wide.set {n w : Nat} {M : Mat} (h : Wide n w M) {i : Nat} {qs : List Rat} (hq : qs.length = w) : Wide n w (M.set i qs) := by
  refine ⟨by rw [List.length_set, h.1], fun r hr => ?_⟩
  rcases List.mem_or_eq_of_mem_set hr with hr | rfl
  · exact h.2 r hr
  · exact hq
theorem Mbits.set {k : Nat} {M : Mat} (h : Mbits k M) {i : Nat} {qs : List Rat} (hq : Qbs k qs) : Mbits k (M.set i qs) := fun r hr => by
  rcases List.mem_or_eq_of_mem_set hr with hr | rfl
  · exact h r hr
  · exact hq
theorem Mbits.mono {j k : Nat} {M : Mat} (h : Mbits j M) (hjk : j ≤ k) : Mbits k M := fun qs hq q hm => (h qs hq q hm).mono hjk
theorem Mbits.row {k : Nat} {M : Mat} (h : Mbits k M) {i : Nat} {qs : List Rat} (e : M[i]? = some qs) : Qbs k qs := h qs (List.mem_of_getElem? e)
theorem cellM_of {M : Mat} {i j : Nat} {qs : List Rat} {q : Rat} (h1 : M[i]? = some qs) (h2 : qs[j]? = some q) : cellM M i j = q := by
  unfold cellM
  rw [List.getD_eq_getElem?_getD, List.getD_eq_getElem?_getD, h1, Option.getD_some, h2, Option.getD_some]
theorem pivotIn_some {M : Mat} {c : Nat} : ∀ {k i p : Nat}, pivotIn M c k i = some p → i ≤ p ∧ p < i + k ∧ cellM M p c ≠ 0
  | 0, _, _, h => by cases h
  | k + 1, i, p, h => by
    unfold pivotIn at h
    split at h
    · rename_i hne
      cases h
      exact ⟨Nat.le_refl _, by omega, hne⟩
    · have := pivotIn_some h
      exact ⟨by omega, by omega, this.2.2⟩
theorem swapM_wide {n w : Nat} {M : Mat} (h : Wide n w M) {i j : Nat} (hi : i < n) (hj : j < n) : Wide n w (swapM M i j) := by
  obtain ⟨q1, _, l1, e1⟩ := h.row hi
  obtain ⟨q2, _, l2, e2⟩ := h.row hj
  unfold swapM
  rw [e1, e2]
  exact (h.set l2).set l1
theorem swapM_bits {n w k : Nat} {M : Mat} (h : Wide n w M) (hb : Mbits k M) {i j : Nat} (hi : i < n) (hj : j < n) : Mbits k (swapM M i j) := by
  obtain ⟨q1, g1, _, e1⟩ := h.row hi
  obtain ⟨q2, g2, _, e2⟩ := h.row hj
  unfold swapM
  rw [e1, e2]
  exact (hb.set (hb.row g2)).set (hb.row g1)
theorem normM_wide {n w : Nat} {M : Mat} (h : Wide n w M) {c : Nat} (hc : c < n) : Wide n w (normM c M) := by
  obtain ⟨q1, _, l1, e1⟩ := h.row hc
  unfold normM
  rw [e1]
  exact h.set (by rw [List.length_map, l1])
theorem normM_bits {n w k : Nat} {M : Mat} (h : Wide n w M) (hb : Mbits k M) {c : Nat} (hc : c < n) (hcw : c < w) : Mbits (k + k) (normM c M) := by
  obtain ⟨q1, g1, l1, e1⟩ := h.row hc
  have hcl : c < q1.length := by omega
  have ep : cellM M c c = q1[c] := cellM_of g1 (List.getElem?_eq_getElem hcl)
  unfold normM
  rw [e1, ep]
  refine (hb.mono (Nat.le_add_right k k)).set fun q hq => ?_
  obtain ⟨p, hp, rfl⟩ := List.mem_map.mp hq
  exact Qb.div (hb.row g1 p hp) (hb.row g1 _ (List.getElem_mem hcl))
theorem clearTo_succ (c : Nat) (M : Mat) (j : Nat) : clearTo c M (j + 1) = clearOne c (clearTo c M j) j := rfl
theorem clearTo_off {c : Nat} {M : Mat} : ∀ {j o : Nat}, (j ≤ o ∨ o = c) → (clearTo c M j)[o]? = M[o]?
  | 0, _, _ => rfl
  | j + 1, o, h => by
    rw [clearTo_succ]
    unfold clearOne
    split
    · rename_i hc
      rw [List.getElem?_set_ne (by omega)]
      exact clearTo_off (by omega)
    · exact clearTo_off (by omega)
theorem clearTo_wide {n w : Nat} {M : Mat} (h : Wide n w M) {c : Nat} (hc : c < n) : ∀ {j : Nat}, j ≤ n → Wide n w (clearTo c M j)
  | 0, _ => h
  | j + 1, hj => by
    have ih := clearTo_wide h hc (j := j) (by omega)
    rw [clearTo_succ]
    unfold clearOne
    split
    · obtain ⟨q1, g1, l1, e1⟩ := ih.row (show j < n by omega)
      obtain ⟨q2, g2, l2, e2⟩ := ih.row hc
      rw [e1, e2]
      exact ih.set (by rw [List.length_zipWith, l1, l2]; omega)
    · exact ih
theorem Qbs.cleared {k : Nat} {ps qs : List Rat} {f : Rat} (hp : Qbs k ps) (hq : Qbs k qs) (hf : Qb k f) : Qbs (3 * k + 1) (List.zipWith (fun p q => p - f * q) ps qs) := by
  intro r hr
  obtain ⟨i, hi⟩ := List.mem_iff_getElem?.mp hr
  rw [List.getElem?_zipWith] at hi
  cases e1 : ps[i]? with
  | none => simp [e1] at hi
  | some p =>
    cases e2 : qs[i]? with
    | none => simp [e1, e2] at hi
    | some q =>
      simp only [e1, e2, Option.some.injEq] at hi
      subst hi
      exact (Qb.sub (hp p (List.mem_of_getElem? e1)) (Qb.mul hf (hq q (List.mem_of_getElem? e2)))).mono (by omega)
theorem clearTo_bits {n w k : Nat} {M : Mat} (h : Wide n w M) (hb : Mbits k M) {c : Nat} (hc : c < n) (hcw : c < w) : ∀ {j : Nat}, j ≤ n → Mbits (3 * k + 1) (clearTo c M j)
  | 0, _ => hb.mono (by omega)
  | j + 1, hj => by
    have ih := clearTo_bits h hb hc hcw (j := j) (by omega)
    have hw := clearTo_wide h hc (j := j) (by omega)
    rw [clearTo_succ]
    unfold clearOne
    split
    · obtain ⟨q1, g1, l1, e1⟩ := hw.row (show j < n by omega)
      obtain ⟨q2, g2, l2, e2⟩ := hw.row hc
      rw [e1, e2]
      have b1 : Qbs k q1 := hb.row ((clearTo_off (.inl (Nat.le_refl j))).symm.trans g1)
      have b2 : Qbs k q2 := hb.row ((clearTo_off (.inr rfl)).symm.trans g2)
      have hcl : c < q1.length := by omega
      rw [cellM_of g1 (List.getElem?_eq_getElem hcl)]
      exact ih.set (Qbs.cleared b1 b2 (b1 _ (List.getElem_mem hcl)))
    · exact ih
/-- the bits behind c turns -/
noncomputable def Bit (k : Nat) : Nat → Nat
  | 0 => k
  | i + 1 => 6 * Bit k i + 1
theorem Bit.mono (k : Nat) : ∀ {i j : Nat}, i ≤ j → Bit k i ≤ Bit k j
  | i, 0, h => by rw [Nat.le_zero.mp h]; exact Nat.le_refl _
  | i, j + 1, h => by
    rcases Nat.lt_or_eq_of_le h with h | rfl
    · exact Nat.le_trans (Bit.mono k (Nat.le_of_lt_succ h)) (by show Bit k j ≤ 6 * Bit k j + 1; omega)
    · exact Nat.le_refl _
theorem turnM_some {n w k c : Nat} {M M' : Mat} {t t' : Rat} (h : Wide n w M) (hb : Mbits k M) (ht : Qb k t) (hc : c < n) (hcw : c < w) (e : turnM n c M t = some (M', t')) : Wide n w M' ∧ Mbits (6 * k + 1) M' ∧ Qb (6 * k + 1) t' := by
  unfold turnM at e
  split at e
  · cases e
  · rename_i p hp
    have hps := pivotIn_some hp
    have hpn : p < n := by have := h.1; omega
    have key : ∀ M₁ t₁, Wide n w M₁ → Mbits k M₁ → Qb k t₁ → some (clearTo c (normM c M₁) n, t₁ * cellM M₁ c c) = some (M', t') → Wide n w M' ∧ Mbits (6 * k + 1) M' ∧ Qb (6 * k + 1) t' := by
      intro M₁ t₁ h1 b1 q1 e
      cases e
      have h2 := normM_wide h1 hc
      have b2 := normM_bits h1 b1 hc hcw
      refine ⟨clearTo_wide h2 hc (Nat.le_refl n), (clearTo_bits h2 b2 hc hcw (Nat.le_refl n)).mono (by omega), ?_⟩
      obtain ⟨qs, g, l, _⟩ := h1.row hc
      have hcl : c < qs.length := by omega
      rw [cellM_of g (List.getElem?_eq_getElem hcl)]
      exact (Qb.mul q1 (b1.row g _ (List.getElem_mem hcl))).mono (by omega)
    by_cases hpc : p = c
    · simp only [if_pos hpc] at e
      exact key _ _ h hb ht e
    · simp only [if_neg hpc] at e
      exact key _ _ (swapM_wide h hc hpn) (swapM_bits h hb hc hpn) ht.neg e
theorem swapM_row {n w : Nat} {M : Mat} (h : Wide n w M) {i j : Nat} (hi : i < n) (hj : j < n) (hij : i ≠ j) : (swapM M i j)[i]? = some (M.getD j []) := by
  unfold swapM
  rw [List.getElem?_set_ne (Ne.symm hij), List.getElem?_set_self (by rw [h.1]; exact hi)]
theorem swapM_cell {n w : Nat} {M : Mat} (h : Wide n w M) {i j c : Nat} (hi : i < n) (hj : j < n) (hij : i ≠ j) : cellM (swapM M i j) i c = cellM M j c := by
  unfold cellM
  rw [List.getD_eq_getElem?_getD (l := swapM M i j), swapM_row h hi hj hij]
  rfl
theorem turnM_of {n c p : Nat} {M : Mat} {t : Rat} (hp : pivotIn M c (M.length - c) c = some p) : turnM n c M t = some (clearTo c (normM c (if p = c then M else swapM M c p)) n, (if p = c then t else -t) * cellM (if p = c then M else swapM M c p) c c) := by
  unfold turnM
  rw [hp]
theorem solveM_next {n c : Nat} {M M' : Mat} {t t' : Rat} (hc : c < n) (h : turnM n c M t = some (M', t')) : solveM n (n - c) c M t = solveM n (n - (c + 1)) (c + 1) M' t' := by
  rw [show n - c = (n - (c + 1)) + 1 by omega]
  conv => lhs; unfold solveM
  rw [h]
end Mine
-- Store
set_option maxRecDepth 100000
namespace Mine
open PySem PySem.Spec PySem.Calls PyProof.Rows PyProof.Rows.LCg PySem.W
section
variable {prog : Program} {w : World} {A : Around} {E : Value → Shared → Prop} {s : Shared} {h₀ : Heap} {L : Addr} {m : Str → Option Value} {led : List (Addr × Obj)}
theorem list_copy_at {l : Addr} {vs : List Value} {c : Nat} {Q : Value → Shared → Prop} (F : Fr h₀ L s.heap m) (N : News h₀ L s.heap led) (hm : (l, ({ cls := .type "list", data := .seq vs.toArray c } : Obj)) ∈ led) (hsz : vs.length ≤ sizeLine)
    (h : ∀ D c' h', Fr h₀ L h' m → News h₀ L h' ((D, ({ cls := .type "list", data := .seq vs.toArray c' } : Obj)) :: led) → (∀ q ∈ led, q.1 < D) → Q (.ref D) { s with heap := h' }) :
    wpAny (model prog w) A (call (.type "list") [.ref l]) Q E s :=
  list_copyK F N ⟨_, (N _ hm).1, rfl, _, rfl⟩ h (by simpa using hsz)
theorem set_at {l : Addr} {vs : List Value} {c : Nat} {k : Int} {u : Tok} {v : Value} {Q : Unit → Shared → Prop} (rest : List (Addr × Obj)) (F : Fr h₀ L s.heap m) (N : News h₀ L s.heap led) (hm : (l, ({ cls := .type "list", data := .seq vs.toArray c } : Obj)) ∈ led)
    (h0 : 0 ≤ k) (hk : k < vs.length) (hfit : k < 2 ^ 63) (hr : ∀ p ∈ rest, p ∈ led ∧ p.1 ≠ l)
    (h : ∀ c' h', Fr h₀ L h' m → News h₀ L h' ((l, ({ cls := .type "list", data := .seq (vs.set k.toNat v).toArray c' } : Obj)) :: rest) → Q () { s with heap := h' }) :
    wpAny (model prog w) A (setItem (.ref l) (.int k u) v) Q E s := by
  obtain ⟨hg, hL, hn⟩ := N _ hm
  refine ki_setAt hg h0 hfit (by simpa using hk) ?_
  have hs : Heap.SameBut l s.heap (s.heap.update l (Obj.mapSeq (·.setIfInBounds k.toNat v))) := Heap.SameBut.update ..
  have q := PySem.IsL.update hg (·.setIfInBounds k.toNat v)
  have e : vs.toArray.setIfInBounds k.toNat v = (vs.set k.toNat v).toArray := by
    apply Array.toList_inj.mp
    simp
  dsimp only at q
  rw [e] at q
  refine h (if (vs.set k.toNat v).toArray.size == vs.toArray.size then c else c + 1) _ (F.change hs hL hn) fun p hp => ?_
  rcases List.mem_cons.mp hp with rfl | hp
  · exact ⟨q, hL, hn⟩
  · obtain ⟨h1, h2⟩ := hr p hp
    exact ⟨hs.extBut _ _ h2 (N p h1).1, (N p h1).2⟩
end
end Mine
-- Inv
set_option maxRecDepth 100000
namespace Mine
open PySem PySem.Spec PySem.Calls PyProof.Rows PyProof.Rows.LCg PySem.W

def Above (led rest : List (Addr × Obj)) : Prop := (∀ p ∈ led, p ∈ rest) ∧ ∀ p ∈ rest, p ∈ led ∨ ∀ q ∈ led, q.1 < p.1
theorem Above.refl (led : List (Addr × Obj)) : Above led led := ⟨fun _ h => h, fun _ h => .inl h⟩
theorem Above.trans {a b c : List (Addr × Obj)} (h : Above a b) (h' : Above b c) : Above a c :=
  ⟨fun p hp => h'.1 p (h.1 p hp), fun p hp => (h'.2 p hp).elim (h.2 p) fun k => .inr fun q hq => k q (h.1 q hq)⟩
theorem Above.cons {a b : List (Addr × Obj)} {x : Addr} {o : Obj} (h : Above a b) (hx : ∀ q ∈ a, q.1 < x) : Above a ((x, o) :: b) :=
  ⟨fun p hp => List.mem_cons_of_mem _ (h.1 p hp), fun p hp => by
    rcases List.mem_cons.mp hp with rfl | hp
    · exact .inr hx
    · exact h.2 p hp⟩
theorem Above.app {a tl : List (Addr × Obj)} (ht : ∀ p ∈ tl, ∀ q ∈ a, q.1 < p.1) : Above a (tl ++ a) :=
  ⟨fun p hp => List.mem_append_right _ hp, fun p hp => (List.mem_append.mp hp).elim (fun h => .inr (ht p h)) .inl⟩
open Classical in
theorem Ext.of_above {led rest : List (Addr × Obj)} (h : Above led rest) : ∃ led', Ext led led' ∧ (∀ p ∈ led', p ∈ rest) ∧ ∀ p ∈ rest, p ∈ led' := by
  refine ⟨rest.filter (fun p => decide (∀ q ∈ led, q.1 < p.1)) ++ led, ⟨_, rfl, fun p hp => ?_⟩, fun p hp => ?_, fun p hp => ?_⟩
  · exact of_decide_eq_true (List.mem_filter.mp hp).2
  · rcases List.mem_append.mp hp with hp | hp
    · exact (List.mem_filter.mp hp).1
    · exact h.1 p hp
  · rcases h.2 p hp with hl | hl
    · exact List.mem_append_right _ hl
    · exact List.mem_append_left _ (List.mem_filter.mpr ⟨hp, decide_eq_true hl⟩)

/-- what the loops of solved_rows keep -/
def Inv (led : List (Addr × Obj)) (R C : Addr) (n : Nat) (M : Mat) (t : Rat) (m : Str → Option Value) (led₁ : List (Addr × Obj)) : Prop :=
  ∃ (rest : List (Addr × Obj)) (rs : List Value) (k : Nat) (oc : Obj) (v : Option Value) (T : Addr) (a b ts : Tok), led₁ = (R, { cls := .type "list", data := .seq rs.toArray k }) :: (C, oc) :: rest ∧ oc.data = .cell v ∧ OwnOff rest [R, C] ∧ Above led rest ∧ Rows rest rs M ∧
    (T, ({ cls := .type "tuple", data := .seq #[.int t.num a, .int (t.den : Nat) b] } : Obj)) ∈ rest ∧ m (Str.ofString "rows") = some (.ref R) ∧ m (Str.ofString "told") = some (.ref T) ∧ m (Str.ofString "size") = some (.int n ts)
open Classical in
noncomputable def keepOf (led l : List (Addr × Obj)) : List (Addr × Obj) := l.filter (fun p => decide (p ∈ led ∨ p.2.cls ≠ .type "range_iterator"))
theorem mem_keepOf {led l : List (Addr × Obj)} {p : Addr × Obj} : p ∈ keepOf led l ↔ p ∈ l ∧ (p ∈ led ∨ p.2.cls ≠ .type "range_iterator") := by
  classical
  unfold keepOf
  rw [List.mem_filter, decide_eq_true_eq]
theorem Cells.sub {led led' : List (Addr × Obj)} {cs : List Value} {qs : List Rat} (h : Cells led cs qs) (hs : ∀ p ∈ led, p.2.cls = .type "tuple" → p ∈ led') : Cells led' cs qs := by
  induction h with
  | nil => exact .nil
  | cons hm _ ih => exact .cons (hs _ hm rfl) ih
theorem Rows.sub {led led' : List (Addr × Obj)} {rs : List Value} {M : Mat} (h : Rows led rs M) (h1 : ∀ p ∈ led, p.2.cls = .type "tuple" → p ∈ led') (h2 : ∀ p ∈ led, p.2.cls = .type "list" → p ∈ led') : Rows led' rs M :=
  ⟨h.1, fun i v e => by
    obtain ⟨qs, g, r, k, cs, ev, hm, hc⟩ := h.2 i v e
    exact ⟨qs, g, r, k, cs, ev, h2 _ hm rfl, hc.sub h1⟩⟩

theorem Inv.close {h₀ h' : Heap} {L R C T : Addr} {led led₁ own rest rest9 : List (Addr × Obj)} {n : Nat} {M' : Mat} {t' : Rat} {rs' : List Value} {k' : Nat} {oc' : Obj} {v' : Option Value} {a b ts : Tok} {m' : Str → Option Value} {s₁ : Shared} {Q : Flow → Shared → Prop} {tk : Nat} {J' : (Str → Option Value) → List (Addr × Obj) → Prop}
    (hR : ∃ o, (R, o) ∈ led₁) (hC : ∃ o, (C, o) ∈ led₁) (hrest : ∀ p ∈ rest, p ∈ led₁) (hA : Above led rest) (sep : ∀ p ∈ led₁, ∀ q ∈ own, p.1 ≠ q.1) (hown : ∀ q ∈ own, q.2.cls = .type "range_iterator")
    (F : Fr h₀ L h' m') (N : News h₀ L h' ((R, { cls := .type "list", data := .seq rs'.toArray k' }) :: (C, oc') :: rest9)) (hcell : oc'.data = .cell v') (hoff : OwnOff rest9 [R, C]) (hA9 : Above (rest ++ own) rest9) (hrows : Rows rest9 rs' M')
    (hT : (T, ({ cls := .type "tuple", data := .seq #[.int t'.num a, .int (t'.den : Nat) b] } : Obj)) ∈ rest9) (e1 : m' (Str.ofString "rows") = some (.ref R)) (e2 : m' (Str.ofString "told") = some (.ref T)) (e3 : m' (Str.ofString "size") = some (.int n ts))
    (hJ : ∀ led₂, Inv led R C n M' t' m' led₂ → J' m' led₂) : ForOut h₀ L own led₁ J' s₁ Q .next { s₁ with heap := h', toks := tk } := by
  have hin : ∀ p ∈ rest9, p.2.cls ≠ .type "range_iterator" → p ∈ keepOf led rest9 := fun p hp hc => mem_keepOf.mpr ⟨hp, .inr hc⟩
  refine ⟨h', tk, m', (R, { cls := .type "list", data := .seq rs'.toArray k' }) :: (C, oc') :: keepOf led rest9, rfl, F, fun p hp => ?_, fun p hp => ?_, hJ _ ⟨_, rs', k', oc', v', T, a, b, ts, rfl, hcell, fun p hp => hoff p (mem_keepOf.mp hp).1, ?_, ?_, hin _ hT (show Value.type "tuple" ≠ Value.type "range_iterator" by decide), e1, e2, e3⟩⟩
  · rcases List.mem_append.mp hp with hp | hp
    · exact N p (List.mem_cons_of_mem _ (List.mem_cons_of_mem _ (hA9.1 p (List.mem_append_right _ hp))))
    · rcases List.mem_cons.mp hp with rfl | hp
      · exact N _ List.mem_cons_self
      · rcases List.mem_cons.mp hp with rfl | hp
        · exact N _ (List.mem_cons_of_mem _ List.mem_cons_self)
        · exact N p (List.mem_cons_of_mem _ (List.mem_cons_of_mem _ (mem_keepOf.mp hp).1))
  · rcases List.mem_cons.mp hp with rfl | hp
    · exact .inl (let ⟨o, ho⟩ := hR; ⟨_, ho, rfl⟩)
    · rcases List.mem_cons.mp hp with rfl | hp
      · exact .inl (let ⟨o, ho⟩ := hC; ⟨_, ho, rfl⟩)
      · obtain ⟨h1, h2⟩ := mem_keepOf.mp hp
        rcases hA9.2 p h1 with h3 | h3
        · rcases List.mem_append.mp h3 with h3 | h3
          · exact .inl ⟨p, hrest p h3, rfl⟩
          · rcases h2 with h2 | h2
            · exact .inl ⟨p, hrest p (hA.1 p h2), rfl⟩
            · exact absurd (hown p h3) h2
        · exact .inr fun q hq => h3 q (List.mem_append_right _ hq)
  · refine ⟨fun p hp => mem_keepOf.mpr ⟨hA9.1 p (List.mem_append_left _ (hA.1 p hp)), .inl hp⟩, fun p hp => ?_⟩
    obtain ⟨h1, h2⟩ := mem_keepOf.mp hp
    rcases h2 with h2 | h2
    · exact .inl h2
    · rcases hA9.2 p h1 with h3 | h3
      · rcases List.mem_append.mp h3 with h3 | h3
        · exact hA.2 p h3
        · exact absurd (hown p h3) h2
      · exact .inr fun q hq => h3 q (List.mem_append_left _ (hA.1 q hq))
  · exact hrows.sub (fun p hp hc => hin p hp (by rw [hc]; decide)) fun p hp hc => hin p hp (by rw [hc]; decide)
theorem OwnOff.app {a b : List (Addr × Obj)} {l : List Addr} (h1 : OwnOff a l) (h2 : OwnOff b l) : OwnOff (a ++ b) l := fun p hp x hx => (List.mem_append.mp hp).elim (fun h => h1 p h x hx) fun h => h2 p h x hx
theorem mem_own2 {rest : List (Addr × Obj)} {R C : Addr} (h1 : ∀ p ∈ rest, p.1 ≠ R) (h2 : ∀ p ∈ rest, p.1 ≠ C) : OwnOff rest [R, C] := fun p hp x hx => by
  rcases List.mem_cons.mp hx with rfl | hx
  · exact h1 p hp
  · rw [List.mem_singleton.mp hx]; exact h2 p hp
theorem fr_known4 {h₀ h : Heap} {L : Addr} {m : Str → Option Value} {a b c d : Str} {va vb vc vd : Value} (F : Fr h₀ L h m) (ea : m a = some va) (eb : m b = some vb) (ec : m c = some vc) (ed : m d = some vd) :
    Fr h₀ L h (fun z => if z = a then some va else if z = b then some vb else if z = c then some vc else if z = d then some vd else m z) := by
  have : (fun z => if z = a then some va else if z = b then some vb else if z = c then some vc else if z = d then some vd else m z) = m := by
    funext z
    by_cases h1 : z = a
    · subst h1; simp [ea]
    · by_cases h2 : z = b
      · subst h2; simp [h1, eb]
      · by_cases h3 : z = c
        · subst h3; simp [h1, h2, ec]
        · by_cases h4 : z = d
          · subst h4; simp [h1, h2, h3, ed]
          · simp [h1, h2, h3, h4]
  rw [this]; exact F
def JoinOut (P : Shared → Prop) (f : Flow) (s : Shared) : Prop := f = .next ∧ P s
theorem If_join {M : Model} {A : Around} {E : Value → Shared → Prop} {Q : Flow → Shared → Prop} {s : Shared} {test : Expr} {body orelse : List Stmt} {pos : Pos} {env : Env} (P : Shared → Prop) (h : wpAny M A (exec (.If test body orelse pos) env) (JoinOut P) E s) (k : ∀ s', P s' → Q .next s') :
    wpAny M A (exec (.If test body orelse pos) env) Q E s := wpAny_mono h (by rintro _ _ ⟨rfl, p⟩; exact k _ p) (fun _ _ e => e)
end Mine
-- Dec
set_option maxRecDepth 100000
namespace Mine
open PySem PySem.Spec PySem.Calls PyProof.Rows PyProof.Rows.LCg PySem.W PySem.Builtin.Int

/-- how many figures a number has -/
def IsFig (n : Nat) (F : Int) : Prop := 1 ≤ F ∧ n < 10 ^ F.toNat ∧ (F = 1 ∨ 10 ^ (F.toNat - 1) ≤ n)
def FigInv (n : Nat) (x y : Int) : Prop := 1 ≤ x ∧ y = 10 ^ x.toNat ∧ (x = 1 ∨ 10 ^ (x.toNat - 1) ≤ n)
theorem fig_start (n : Nat) : FigInv n 1 10 := ⟨by decide, by decide, .inl rfl⟩
theorem fig_turn {n : Nat} {x y : Int} (h : FigInv n x y) (hy : y ≤ (n : Int)) : FigInv n (x + 1) (y * 10) := by
  obtain ⟨h1, h2, h3⟩ := h
  obtain ⟨k, rfl⟩ : ∃ k : Nat, x = (k : Int) := ⟨x.toNat, by omega⟩
  have e : ((k : Int) + 1).toNat = k + 1 := by omega
  refine ⟨by omega, ?_, .inr ?_⟩
  · rw [e, h2, Int.toNat_natCast, Int.pow_succ]
  · rw [e, Nat.add_sub_cancel]
    rw [h2, Int.toNat_natCast] at hy
    exact_mod_cast hy
theorem fig_less {n : Nat} {x y : Int} (h : FigInv n x y) (hy : y ≤ (n : Int)) : ((n : Int) + 1 - y * 10).toNat < ((n : Int) + 1 - y).toNat := by
  have : 0 < y := by rw [h.2.1]; exact Int.pow_pos (by decide)
  omega
theorem fig_end {n : Nat} {x y : Int} (h : FigInv n x y) (hy : ¬ y ≤ (n : Int)) : IsFig n x := by
  obtain ⟨h1, h2, h3⟩ := h
  refine ⟨h1, ?_, h3⟩
  rw [h2] at hy
  have : (n : Int) < ((10 ^ x.toNat : Nat) : Int) := by push_cast; omega
  exact_mod_cast this
theorem fig_unique {n : Nat} {F G : Int} (h : IsFig n F) (h' : IsFig n G) : F = G := by
  have key : ∀ {F G : Int}, IsFig n F → IsFig n G → ¬ F < G := by
    intro F G ⟨h1, h2, _⟩ ⟨g1, g2, g3⟩ hlt
    have g3 : 10 ^ (G.toNat - 1) ≤ n := by rcases g3 with g3 | g3; omega; exact g3
    have : 10 ^ F.toNat ≤ 10 ^ (G.toNat - 1) := Nat.pow_le_pow_right (by decide) (by omega)
    omega
  have := key h h'
  have := key h' h
  omega
theorem fig_shift {d : Nat} {f : Int} (h : IsFig d f) (hd : 1 ≤ d) (j : Nat) : IsFig (d * 10 ^ j) (f + j) := by
  obtain ⟨h1, h2, h3⟩ := h
  obtain ⟨k, rfl⟩ : ∃ k : Nat, f = (k : Int) + 1 := ⟨(f - 1).toNat, by omega⟩
  have e : ((k : Int) + 1).toNat = k + 1 := by omega
  have e2 : ((k : Int) + 1 + j).toNat = k + 1 + j := by omega
  rw [e] at h2 h3
  have h3 : 10 ^ k ≤ d := by
    rcases h3 with h3 | h3
    · rw [show k = 0 by omega]; simpa using hd
    · exact h3
  refine ⟨by omega, ?_, .inr ?_⟩
  · rw [e2, Nat.pow_add]; exact Nat.mul_lt_mul_of_pos_right h2 (Nat.pow_pos (by decide))
  · rw [e2, show k + 1 + j - 1 = k + j by omega, Nat.pow_add]; exact Nat.mul_le_mul_right _ h3
theorem fig_le {n k : Nat} {F : Int} (h : IsFig n F) (hn : n < 10 ^ k) (hk : 1 ≤ k) : F ≤ k := by
  obtain ⟨h1, h2, h3⟩ := h
  rcases h3 with h3 | h3
  · omega
  · have : 10 ^ (F.toNat - 1) < 10 ^ k := Nat.lt_of_le_of_lt h3 hn
    have := (Nat.pow_lt_pow_iff_right (by decide : 1 < 10)).mp this
    omega
theorem fig_zero : IsFig 0 1 := ⟨by decide, by decide, .inl rfl⟩
theorem fig_one : IsFig 1 1 := ⟨by decide, by decide, .inl rfl⟩
/-- the loop that takes the noughts off -/
def Strip (m : Nat) (e : Int) (x y : Int) : Prop := ∃ k a : Nat, x = (a : Int) ∧ 1 ≤ a ∧ a * 10 ^ k = m ∧ y = e + k
theorem strip_start {m : Nat} {e : Int} (h : 1 ≤ m) : Strip m e m e := ⟨0, m, rfl, h, by simp, by simp⟩
theorem strip_turn {m : Nat} {e x y : Int} (h : Strip m e x y) (hx : x.fmod 10 = 0) : Strip m e (x.fdiv 10) (y + 1) := by
  obtain ⟨k, a, rfl, ha, hm, rfl⟩ := h
  have h1 : ((a : Int)).fmod 10 = ((a % 10 : Nat) : Int) := by rw [Int.fmod_eq_emod_of_nonneg _ (by decide)]; omega
  have h2 : ((a : Int)).fdiv 10 = ((a / 10 : Nat) : Int) := by rw [Int.fdiv_eq_ediv_of_nonneg _ (by decide)]; omega
  rw [h1] at hx
  refine ⟨k + 1, a / 10, h2, by omega, ?_, by omega⟩
  rw [Nat.pow_succ, Nat.mul_comm (10 ^ k), ← Nat.mul_assoc, show a / 10 * 10 = a by omega, hm]
theorem strip_less {m : Nat} {e x y : Int} (h : Strip m e x y) : (x.fdiv 10).toNat < x.toNat := by
  obtain ⟨k, a, rfl, ha, hm, rfl⟩ := h
  rw [Int.fdiv_eq_ediv_of_nonneg _ (by decide)]
  omega
/-- what is left behind the stripping of d * 10 ^ (9 - f) -/
theorem strip_end {d j : Nat} {e x y : Int} (h : Strip (d * 10 ^ j) e x y) (he : e = -(j : Int)) (hx : x.fmod 10 ≠ 0) (hd : 1 ≤ d) (hlt : d * 10 ^ j < 10 ^ 9) : ∃ a i : Nat, x = (a : Int) ∧ y = (i : Int) ∧ a * 10 ^ i = d ∧ 1 ≤ a ∧ a < 10 ^ 9 ∧ i ≤ 9 := by
  obtain ⟨k, a, rfl, ha, hm, rfl⟩ := h
  have h1 : ((a : Int)).fmod 10 = ((a % 10 : Nat) : Int) := by rw [Int.fmod_eq_emod_of_nonneg _ (by decide)]; omega
  rw [h1] at hx
  have hp : ∀ i : Nat, 1 ≤ 10 ^ i := fun i => Nat.pow_pos (by decide)
  have hkj : j ≤ k := by
    apply Decidable.byContradiction
    intro hc
    obtain ⟨i, rfl⟩ : ∃ i, j = k + (i + 1) := ⟨j - k - 1, by omega⟩
    rw [Nat.pow_add, ← Nat.mul_assoc, Nat.mul_right_comm] at hm
    have := Nat.eq_of_mul_eq_mul_right (hp k) hm
    rw [Nat.pow_succ, ← Nat.mul_assoc] at this
    omega
  obtain ⟨i, rfl⟩ : ∃ i, k = j + i := ⟨k - j, by omega⟩
  rw [Nat.pow_add, Nat.mul_comm (10 ^ j), ← Nat.mul_assoc] at hm
  have hd' := Nat.eq_of_mul_eq_mul_right (hp j) hm
  have hlt' : a * 10 ^ i < 10 ^ 9 := by
    rw [hd']
    exact Nat.lt_of_le_of_lt (Nat.le_mul_of_pos_right _ (hp j)) hlt
  refine ⟨a, i, rfl, by omega, hd', ha, Nat.lt_of_le_of_lt (Nat.le_mul_of_pos_right _ (hp i)) hlt', ?_⟩
  have : 10 ^ i < 10 ^ 9 := Nat.lt_of_le_of_lt (Nat.le_mul_of_pos_left _ ha) hlt'
  have := (Nat.pow_lt_pow_iff_right (by decide : 1 < 10)).mp this
  omega
theorem cut_div {b p : Nat} : ((b * 10 ^ p : Nat) : Int).fdiv (10 ^ p) = (b : Int) := by
  rw [Int.natCast_mul, Int.natCast_pow]
  exact Int.mul_fdiv_cancel _ (by have : (0 : Int) < 10 ^ p := Int.pow_pos (by decide); exact Int.ne_of_gt this)
theorem cut_mod {b p : Nat} : ((b * 10 ^ p : Nat) : Int).fmod (10 ^ p) = 0 := by
  rw [Int.natCast_mul, Int.natCast_pow]
  exact Int.mul_fmod_left _ _
end Mine
namespace Mine
theorem fig_above {b p : Nat} {F : Int} (hb : 1 ≤ b) (h : IsFig (b * 10 ^ p) F) : (p : Int) < F := by
  obtain ⟨h1, h2, _⟩ := h
  have h3 : 10 ^ p < 10 ^ F.toNat := Nat.lt_of_le_of_lt (Nat.le_mul_of_pos_left _ hb) h2
  have := (Nat.pow_lt_pow_iff_right (by decide : 1 < 10)).mp h3
  omega
theorem log_ten {p : Nat} (hp : p ≤ 50) : ((10 : Int) ^ p).natAbs.log2 < 9000 := by
  rw [Int.natAbs_pow]
  have h1 : 10 ^ p ≤ 10 ^ 50 := Nat.pow_le_pow_right (by decide) hp
  have h0 : (10 : Int).natAbs ^ p = 10 ^ p := rfl
  rw [h0]
  have h2 : 10 ^ p < 2 ^ 9000 := Nat.lt_of_le_of_lt h1 (by
    have : (10 : Nat) ^ 50 < 2 ^ 200 := by decide
    exact Nat.lt_of_lt_of_le this (Nat.pow_le_pow_right (by decide) (by decide)))
  exact (Nat.log2_lt (Nat.pos_iff_ne_zero.mp (Nat.pow_pos (by decide)))).mpr h2
end Mine
namespace Mine
theorem strip_start' {m : Nat} {e y : Int} (h : 1 ≤ m) (hy : y = e) : Strip m e m y := by rw [hy]; exact strip_start h
end Mine
namespace Mine
open PySem PySem.Spec PySem.Calls PyProof.Rows PyProof.Rows.LCg PySem.W
theorem News.keep1 {h₀ h : Heap} {L x y : Addr} {o o' : Obj} {led : List (Addr × Obj)} (N : News h₀ L h ((x, o) :: (y, o') :: led)) : News h₀ L h ((x, o) :: led) := fun p hp => by
  rcases List.mem_cons.mp hp with rfl | hp
  · exact N _ List.mem_cons_self
  · exact N p (List.mem_cons_of_mem _ (List.mem_cons_of_mem _ hp))
end Mine
namespace Mine
open PySem
theorem abs_bits {d : Int} (h : d.natAbs < 10 ^ 9) : Builtin.Int.intBits (if d < 0 then -d else d) ≤ 64 := intBits_le_64 (by split <;> omega) (by split <;> omega)
end Mine
namespace Mine
open PySem
theorem abs_toNat (d : Int) : (if d < 0 then -d else d).toNat = d.natAbs := by split <;> omega
theorem fdiv_one' (a : Int) : a.fdiv 1 = a := by rw [Int.fdiv_eq_ediv_of_nonneg _ (by decide)]; exact Int.ediv_one a
theorem dec_c {d f : Int} (hf : IsFig (if d < 0 then -d else d).toNat f) (h8 : f ≤ 9) : (10 * ((if d < 0 then -d else d) * 10 ^ (9 + 3 + 1 - f).toNat).fdiv 1 + 0).natAbs = d.natAbs * 10 ^ (9 - f).toNat * 10 ^ 5 := by
  have h1 := hf.1
  rw [fdiv_one', Int.add_zero, Int.natAbs_mul, Int.natAbs_mul, Int.natAbs_pow, show (9 + 3 + 1 - f).toNat = (9 - f).toNat + 4 by omega]
  have e1 : (if d < 0 then -d else d).natAbs = d.natAbs := by split <;> omega
  rw [e1]
  show 10 * (d.natAbs * 10 ^ ((9 - f).toNat + 4)) = _
  rw [Nat.pow_add, ← Nat.mul_assoc d.natAbs]
  omega
theorem dec_cn {d f : Int} (hf : IsFig (if d < 0 then -d else d).toNat f) (h8 : f ≤ 9) : (-(10 * ((if d < 0 then -d else d) * 10 ^ (9 + 3 + 1 - f).toNat).fdiv 1 + 0)).natAbs = d.natAbs * 10 ^ (9 - f).toNat * 10 ^ 5 := by
  rw [Int.natAbs_neg]; exact dec_c hf h8
theorem dec_fig {d f : Int} (hf : IsFig (if d < 0 then -d else d).toNat f) (h8 : f ≤ 9) (hd : d ≠ 0) : IsFig (d.natAbs * 10 ^ (9 - f).toNat) 9 := by
  rw [abs_toNat] at hf
  have := fig_shift hf (by omega) (9 - f).toNat
  rwa [show f + ((9 - f).toNat : Int) = 9 by omega] at this
theorem dec_pos {d f : Int} : 0 ≤ (10 * ((if d < 0 then -d else d) * 10 ^ (9 + 3 + 1 - f).toNat).fdiv 1 + 0) := by
  rw [fdiv_one', Int.add_zero]
  have h1 : 0 ≤ (if d < 0 then -d else d) := by split <;> omega
  have h2 : (0 : Int) < 10 ^ (9 + 3 + 1 - f).toNat := Int.pow_pos (by decide)
  exact Int.mul_nonneg (by decide) (Int.mul_nonneg h1 (Int.le_of_lt h2))
theorem dec_end {c d : Int} {a i : Nat} (h : c.natAbs = 0 → d = 0) (hp : d < 0 → c ≤ 0) (hq : ¬ d < 0 → 0 ≤ c) (ha : a * 10 ^ i = d.natAbs) : (if c < 0 then -((a : Nat) : Int) else (a : Int)) * 10 ^ i = d := by
  have e : ((a : Nat) : Int) * 10 ^ i = (d.natAbs : Int) := by rw [← ha]; push_cast; rfl
  split
  · rw [Int.neg_mul, e]
    by_cases hd : d < 0
    · omega
    · have := hq hd; omega
  · rw [e]
    by_cases hd : d < 0
    · have := hp hd
      have := h (by omega)
      omega
    · omega
theorem dec_nz {c d f : Int} (h : c.natAbs = d.natAbs * 10 ^ (9 - f).toNat * 10 ^ 5) : c.natAbs = 0 → d = 0 := fun e => by
  rw [e] at h
  have h1 : 0 < 10 ^ (9 - f).toNat := Nat.pow_pos (by decide)
  rcases Nat.eq_zero_or_pos d.natAbs with h2 | h2
  · omega
  · have := Nat.mul_pos h2 h1; omega
end Mine
-- Grid
set_option maxRecDepth 100000
namespace Mine
open PySem PySem.Spec PySem.Calls PyProof.Rows PyProof.Rows.LCg PySem.W
/-- values that are ints -/
inductive Ints : List Value → List Int → Prop
  | nil : Ints [] []
  | cons {z : Int} {t : Tok} {cs : List Value} {zs : List Int} : Ints cs zs → Ints (.int z t :: cs) (z :: zs)
theorem Ints.length {cs : List Value} {zs : List Int} (h : Ints cs zs) : cs.length = zs.length := by
  induction h with
  | nil => rfl
  | cons _ ih => simp [ih]
theorem Ints.get {cs : List Value} {zs : List Int} (h : Ints cs zs) : ∀ {i : Nat} {v : Value}, cs[i]? = some v → ∃ z t, v = .int z t ∧ zs[i]? = some z := by
  induction h with
  | nil => intro i v e; cases e
  | @cons z t cs zs _ ih =>
    intro i v e
    cases i with
    | zero => cases e; exact ⟨z, t, rfl, rfl⟩
    | succ i => exact ih e
theorem Ints.at {cs : List Value} {zs : List Int} (h : Ints cs zs) : ∀ {i : Nat} {z : Int}, zs[i]? = some z → ∃ t, cs[i]? = some (.int z t) := by
  induction h with
  | nil => intro i v e; cases e
  | @cons z t cs zs _ ih =>
    intro i v e
    cases i with
    | zero => cases e; exact ⟨t, rfl⟩
    | succ i => exact ih e
theorem Ints.snoc {cs : List Value} {zs : List Int} {z : Int} {t : Tok} (h : Ints cs zs) : Ints (cs ++ [.int z t]) (zs ++ [z]) := by
  induction h with
  | nil => exact .cons .nil
  | cons _ ih => exact .cons ih
def IntRow (led : List (Addr × Obj)) (v : Value) (zs : List Int) : Prop := ∃ r k cs, v = .ref r ∧ (r, ({ cls := .type "list", data := .seq (List.toArray cs) k } : Obj)) ∈ led ∧ Ints cs zs
inductive IntRows (led : List (Addr × Obj)) : List Value → List (List Int) → Prop
  | nil : IntRows led [] []
  | cons {v : Value} {zs : List Int} {vs : List Value} {M : List (List Int)} : IntRow led v zs → IntRows led vs M → IntRows led (v :: vs) (zs :: M)
theorem IntRows.length {led : List (Addr × Obj)} {vs : List Value} {M : List (List Int)} (h : IntRows led vs M) : vs.length = M.length := by
  induction h with
  | nil => rfl
  | cons _ _ ih => simp [ih]
theorem IntRows.get {led : List (Addr × Obj)} {vs : List Value} {M : List (List Int)} (h : IntRows led vs M) : ∀ {i : Nat} {v : Value}, vs[i]? = some v → ∃ zs, M[i]? = some zs ∧ IntRow led v zs := by
  induction h with
  | nil => intro i v e; cases e
  | cons h _ ih =>
    intro i v e
    cases i with
    | zero => cases e; exact ⟨_, rfl, h⟩
    | succ i => exact ih e
theorem IntRows.at {led : List (Addr × Obj)} {vs : List Value} {M : List (List Int)} (h : IntRows led vs M) : ∀ {i : Nat} {zs : List Int}, M[i]? = some zs → ∃ v, vs[i]? = some v ∧ IntRow led v zs := by
  induction h with
  | nil => intro i v e; cases e
  | cons h _ ih =>
    intro i v e
    cases i with
    | zero => cases e; exact ⟨_, rfl, h⟩
    | succ i => exact ih e
/-- the same as rows of fractions -/
inductive RowsI (led : List (Addr × Obj)) : List Value → Mat → Prop
  | nil : RowsI led [] []
  | cons {v : Value} {qs : List Rat} {vs : List Value} {M : Mat} : RowIn led v qs → RowsI led vs M → RowsI led (v :: vs) (qs :: M)
theorem RowsI.mono {led led' : List (Addr × Obj)} {vs : List Value} {M : Mat} (h : RowsI led vs M) (hs : ∀ p ∈ led, p ∈ led') : RowsI led' vs M := by
  induction h with
  | nil => exact .nil
  | cons h _ ih => exact .cons (h.mono hs) ih
theorem RowsI.snoc {led : List (Addr × Obj)} {vs : List Value} {M : Mat} {v : Value} {qs : List Rat} (h : RowsI led vs M) (h' : RowIn led v qs) : RowsI led (vs ++ [v]) (M ++ [qs]) := by
  induction h with
  | nil => exact .cons h' .nil
  | cons h _ ih => exact .cons h ih
theorem RowsI.rows {led : List (Addr × Obj)} {vs : List Value} {M : Mat} (h : RowsI led vs M) : Rows led vs M := by
  constructor
  · induction h with
    | nil => rfl
    | cons _ _ ih => simp [ih]
  · induction h with
    | nil => intro i v e; cases e
    | cons h _ ih =>
      intro i v e
      cases i with
      | zero => cases e; exact ⟨_, rfl, h⟩
      | succ i => exact ih i v e
noncomputable def ratM (M : List (List Int)) : Mat := M.map fun zs => zs.map fun z => ((z : Int) : Rat)
theorem take_map_succ' {α β : Type} {f : α → β} {ps : List α} {i : Nat} {p : α} (hp : ps[i]? = some p) : (ps.take (i + 1)).map f = (ps.take i).map f ++ [f p] := by
  rw [List.take_add_one, hp, List.map_append]; rfl
theorem ratM_wide {n w : Nat} {M : List (List Int)} (h1 : M.length = n) (h2 : ∀ zs ∈ M, zs.length = w) : Wide n w (ratM M) := by
  refine ⟨by unfold ratM; rw [List.length_map, h1], fun qs hq => ?_⟩
  obtain ⟨zs, hz, rfl⟩ := List.mem_map.mp hq
  rw [List.length_map, h2 zs hz]
theorem ratM_bits {k : Nat} {M : List (List Int)} (hk : 1 ≤ k) (h : ∀ zs ∈ M, ∀ z ∈ zs, z.natAbs < 2 ^ k) : Mbits k (ratM M) := by
  intro qs hq q hm
  obtain ⟨zs, hz, rfl⟩ := List.mem_map.mp hq
  obtain ⟨z, hz', rfl⟩ := List.mem_map.mp hm
  exact ⟨PySem.intBits_le_iff.mpr (h zs hz z hz'), Nat.le_trans (show Builtin.Int.intBits ((1 : Nat) : Int) ≤ 1 by decide) hk⟩
end Mine
namespace Mine
open PySem PySem.Spec PySem.Calls PyProof.Rows PyProof.Rows.LCg PySem.W
theorem compOut_many {h₀ : Heap} {L : Addr} {m : Str → Option Value} {s₁ : Shared} {own led₁ tl : List (Addr × Obj)} {J : Value → List (Addr × Obj) → Prop} {h' : Heap} {tk : Nat} {v : Value}
    (F : Fr h₀ L h' m) (N : News h₀ L h' (tl ++ (own ++ led₁))) (ht : ∀ p ∈ tl, ∀ q ∈ own, q.1 < p.1) (hJ : J v (tl ++ led₁)) : CompOut h₀ L m s₁ own led₁ J v { s₁ with heap := h', toks := tk } := by
  refine ⟨h', tk, tl ++ led₁, rfl, F, fun p hp => N p ?_, fun p hp => ?_, hJ⟩
  · simp only [List.mem_append] at hp ⊢
    rcases hp with h | h | h
    · exact .inr (.inl h)
    · exact .inl h
    · exact .inr (.inr h)
  · rcases List.mem_append.mp hp with hp | hp
    · exact .inr (ht p hp)
    · exact .inl ⟨p, hp, rfl⟩
end Mine
namespace Mine
open PySem PySem.Spec PySem.Calls PyProof.Rows PyProof.Rows.LCg PySem.W
theorem allLt_drop {y : Addr} {b : List (Addr × Obj)} : ∀ {a : List (Addr × Obj)}, AllLt y (a ++ b) → AllLt y b
  | [], h => h
  | p :: a, h => allLt_drop (a := a) h.2
end Mine
-- Law1
set_option maxRecDepth 100000
namespace Mine
end Mine
-- ForZip
set_option maxHeartbeats 4000000
set_option maxRecDepth 100000
namespace Mine
open PySem PySem.Spec PySem.Calls PyProof.Rows PyProof.Rows.LCg PySem.W
section
variable {prog : Program} {w : World} {A : Around} {E : Value → Shared → Prop} {s : Shared} {h₀ : Heap} {env : Env} {target : Expr} {body : List Stmt} {Q : Flow → Shared → Prop} {m : Str → Option Value} {led : List (Addr × Obj)}
theorem hid9 {G : Prop} (h : ∀ H : Prop, (G → H) → H) : G := h G id
def IterF2 (prog : Program) (w : World) (A : Around) (E : Value → Shared → Prop) (h₀ : Heap) (env : Env) (target : Expr) (body : List Stmt) (Q : Flow → Shared → Prop) (xv : Value) (s₁ : Shared) : Prop :=
  wpAny (model prog w) A (pyIter xv) (fun it s₂ => TurnsAt prog w A h₀ env target body Q E it s₂) E s₁
theorem ForF2 {iter : Expr} {pos : Pos} (F : Fr h₀ env.locals s.heap m)
    (hE : PassesOwn (model prog w) A env E)
    (h : wpAny (model prog w) A (eval iter env) (IterF2 prog w A E h₀ env target body Q) E s)
    (hs : ∀ x, foldedSetIterable iter env x = pure x := by intro _; rfl) :
    wpAny (model prog w) A (exec (.For target iter body [] pos) env) Q E s := For_turns F h hs hE
theorem IterF2.zip {elts : List Expr} {kk : Nat} {tpos : Pos} {l1 l2 : Addr} {xs ys : List Value} {k1 k2 : Nat} (hh : A.handled = none) (F : Fr h₀ env.locals s.heap m) (N : News h₀ env.locals s.heap led)
    (hm1 : (l1, ({ cls := .type "list", data := .seq xs.toArray k1 } : Obj)) ∈ led) (hm2 : (l2, ({ cls := .type "list", data := .seq ys.toArray k2 } : Obj)) ∈ led)
    (J : Nat → (Str → Option Value) → List (Addr × Obj) → Prop) (h0 : J 0 m led)
    (turn : ∀ i v v₂ T m₁ led₁ own h tk, i < min xs.length ys.length → xs[i]? = some v → ys[i]? = some v₂ → J i m₁ led₁ → h.IsTuple T #[v, v₂] → Fr h₀ env.locals h m₁ → News h₀ env.locals h (own ++ led₁) →
      wpAny (model prog w) A (assign (.Tuple elts kk tpos) env (.ref T)) (fun _ s₃ => wpAny (model prog w) A (execs body env) (ForOut h₀ env.locals own led₁ (J (i + 1)) { s with heap := h, toks := tk } Q) E s₃) E { s with heap := h, toks := tk })
    (done : ∀ h tk m₁ led₁, J (min xs.length ys.length) m₁ led₁ → Fr h₀ env.locals h m₁ → News h₀ env.locals h led₁ → Q .next { s with heap := h, toks := tk }) :
    wpAny (model prog w) A (call (.type "zip") [.ref l1, .ref l2]) (IterF2 prog w A E h₀ env (.Tuple elts kk tpos) body Q) E s := by
  have hl1 : s.heap.IsList l1 xs.toArray := ⟨_, (N _ hm1).1, rfl, _, rfl⟩
  have hl2 : s.heap.IsList l2 ys.toArray := ⟨_, (N _ hm2).1, rfl, _, rfl⟩
  have lt1 : l1 < s.heap.objs.size := Heap.lt_size (N _ hm1).1
  have lt2 : l2 < s.heap.objs.size := Heap.lt_size (N _ hm2).1
  have ltL : env.locals < s.heap.objs.size := F.ns.lt
  refine call_zip_2 hl1 hl2 fun h' hz hTI hTO h1 h2 hsz' hk => ?_
  refine wpAny_pyIter_zip hz ?_
  have D := zipApart_of s.heap.objs.size l1 l2 lt1 lt2
  have hLk : ∀ j : Nat, env.locals ≠ s.heap.objs.size + j := fun j => Nat.ne_of_lt (Nat.lt_of_lt_of_le ltL (Nat.le_add_right _ _))
  have hnew : ∀ j : Nat, h₀.get? (s.heap.objs.size + j) = none := fun j => Heap.get?_none_of_le (Nat.le_trans (Nat.le_of_lt (Nat.lt_of_le_of_lt F.above ltL)) (Nat.le_add_right _ _))
  have W := (WalksT.zip2 (prog := prog) (w := w) hh _ _ _ _ _ _ _ D xs.toArray ys.toArray).toU
  have hlv : ∀ {own : List (Addr × Obj)} {fp : List Addr} {h : Heap}, (∀ b ∈ fp, h₀.get? b = none → ∀ o, h.get? b = some o → (b, o) ∈ own) → (∀ b ∈ [s.heap.objs.size + 4, s.heap.objs.size + 3, s.heap.objs.size, s.heap.objs.size + 1], b ∈ fp ∧ ∃ o, h.get? b = some o) → ∀ b ∈ [s.heap.objs.size + 4, s.heap.objs.size + 3, s.heap.objs.size, s.heap.objs.size + 1], ∃ o, (b, o) ∈ own := by
    intro own fp h hl ha b hb
    obtain ⟨h1, o, h2⟩ := ha b hb
    refine ⟨o, hl b h1 ?_ o h2⟩
    simp only [List.mem_cons, List.not_mem_nil, or_false] at hb
    rcases hb with rfl | rfl | rfl | rfl
    · exact hnew 4
    · exact hnew 3
    · exact hnew 0
    · exact hnew 1
  refine ⟨_, _, _, _, _, _, _, m, led, J, rfl, KTurns.ofWalksU W, ?_, ?_, ?_, ⟨hz, hTI, ⟨_, _, hTO⟩, h1, h2, hl1.at fun o e => hk _ o e, hl2.at fun o e => hk _ o e⟩, F.keeps hk, N.grown hk, h0, ?_, ?_⟩
  · intro hb
    simp only [List.mem_cons, List.not_mem_nil, or_false] at hb
    rcases hb with e | e | e | e | e | e | e
    · exact hLk 4 e
    · exact hLk 2 e
    · exact hLk 3 e
    · exact hLk 0 e
    · exact hLk 1 e
    · exact (N _ hm1).2.1 e.symm
    · exact (N _ hm2).2.1 e.symm
  · intro b hb
    simp only [List.mem_cons, List.not_mem_nil, or_false] at hb
    rcases hb with rfl | rfl | rfl | rfl
    · exact hnew 4
    · exact hnew 3
    · exact hnew 0
    · exact hnew 1
  · intro p hp hI
    have hlt : p.1 < s.heap.objs.size := Heap.lt_size (N p hp).1
    simp only [List.mem_cons, List.not_mem_nil, or_false] at hI
    have no : ∀ j : Nat, p.1 ≠ s.heap.objs.size + j := fun j => Nat.ne_of_lt (Nat.lt_of_lt_of_le hlt (Nat.le_add_right _ _))
    rcases hI with e | e | e | e
    · exact no 4 e
    · exact no 3 e
    · exact no 0 e
    · exact no 1 e
  · intro i v m₁ led₁ h₁ tk₁ own hi hP9 hJ hnw hown hown2 hlive hS9 F₁ N₁
    refine hid9 fun H9 hH9 => ?_
    obtain ⟨T, vals, hv9, ⟨a, b, ha, hb, hl9⟩, hT⟩ := hP9
    obtain ⟨a1, a2, ⟨_, _, a3⟩, ⟨o4, a4, _⟩, ⟨o5, a5, _⟩, ⟨o6, a6, _⟩, o7, a7, _⟩ := hS9
    refine hH9 ?_
    clear hH9 H9
    subst hl9 hv9
    have hin := hlv hlive (by
      intro b hb
      simp only [List.mem_cons, List.not_mem_nil, or_false] at hb
      rcases hb with rfl | rfl | rfl | rfl
      · exact ⟨by simp, _, a1⟩
      · exact ⟨by simp, _, a3⟩
      · exact ⟨by simp, _, a4⟩
      · exact ⟨by simp, _, a5⟩)
    · refine wpAny_mono (turn i a b T m₁ led₁ own h₁ tk₁ (by simpa using hi) (by simpa using ha) (by simpa using hb) hJ hT F₁ N₁) (fun _ s₃ h₃ => wpAny_mono h₃ (fun f s₂ q => ?_) fun _ _ e => e) fun _ _ e => e
      have off : ∀ led₂ : List (Addr × Obj), (∀ p ∈ led₂, (∃ q ∈ led₁, q.1 = p.1) ∨ ∀ q ∈ own, q.1 < p.1) → ∀ p ∈ led₂, p.1 ∉ [s.heap.objs.size + 4, s.heap.objs.size + 3, s.heap.objs.size, s.heap.objs.size + 1] := fun led₂ ho p hp hI => by
        rcases ho p hp with ⟨q, hq, e⟩ | hall
        · exact hnw q hq (by rw [e]; exact hI)
        · obtain ⟨o, ho⟩ := hin _ hI
          exact absurd (hall _ ho) (Nat.lt_irrefl _)
      cases f with
      | ret v => exact q
      | brk => exact q
      | next =>
        obtain ⟨h', tk', m₂, led₂, rfl, F₂, N₂, ho, hJ₂⟩ := q
        exact ⟨rfl, h', tk', m₂, led₂, rfl, F₂, N₂, off _ ho, hJ₂⟩
      | cont =>
        obtain ⟨h', tk', m₂, led₂, rfl, F₂, N₂, ho, hJ₂⟩ := q
        exact ⟨rfl, h', tk', m₂, led₂, rfl, F₂, N₂, off _ ho, hJ₂⟩
  · intro h₁ tk₁ m₁ led₁ F₁ N₁ _ hJ
    exact done h₁ tk₁ m₁ led₁ (by simpa using hJ) F₁ N₁
end
end Mine
-- Det2
set_option maxRecDepth 100000
namespace Mine
theorem clear_no {c o : Nat} {M : Mat} {ps qs : List Rat} (ho : o ≠ c) (hp : M[o]? = some ps) (hq : M[c]? = some qs) (hl : ps.length = qs.length) :
    clearOne c M o = M.set o (List.zipWith (fun p q => p - cellM M o c * q) ps qs) := by
  have e1 : M.getD o [] = ps := by rw [List.getD_eq_getElem?_getD, hp]; rfl
  have e2 : M.getD c [] = qs := by rw [List.getD_eq_getElem?_getD, hq]; rfl
  unfold clearOne
  by_cases h : cellM M o c = 0
  · rw [if_neg (fun h' => h'.2 h), h]
    have e : List.zipWith (fun p q => p - 0 * q) ps qs = ps := by
      apply List.ext_getElem
      · rw [List.length_zipWith, hl, Nat.min_self]
      · intro i h1 h2
        rw [List.getElem_zipWith]
        grind
    rw [e]
    obtain ⟨hlt, rfl⟩ := List.getElem?_eq_some_iff.mp hp
    exact (List.set_getElem_self hlt).symm
  · rw [if_pos ⟨ho, h⟩, e1, e2]
theorem clear_own {c : Nat} {M : Mat} : clearOne c M c = M := if_neg (fun h => h.1 rfl)
theorem two_first {a b c d t : Rat} (ha : a ≠ 0) : turnM 2 0 [[a, b], [c, d]] t = some ([[1, b / a], [0, d - c * (b / a)]], t * a) := by
  have e0 : pivotIn [[a, b], [c, d]] 0 2 0 = some 0 := by simp [pivotIn, ha]
  unfold turnM
  simp only [List.length_cons, List.length_nil, Nat.zero_add, Nat.sub_zero, e0, if_true]
  simp only [clearTo, normM, cellM, List.getD_cons_zero, List.map, List.set_cons_zero]
  rw [clear_own, clear_no (c := 0) (o := 1) (ps := [c, d]) (qs := [a / a, b / a]) (by decide) rfl rfl rfl]
  have ea : a / a = 1 := by grind
  simp [cellM, List.zipWith, ea]
  grind
theorem two_last {b e t : Rat} : (solveM 2 1 1 [[1, b], [0, e]] t).2 = t * e := by
  by_cases he : e = 0
  · subst he
    have e0 : pivotIn [[1, b], [0, 0]] 1 1 1 = none := by simp [pivotIn]
    unfold solveM turnM
    simp only [List.length_cons, List.length_nil, Nat.zero_add, Nat.reduceAdd, Nat.reduceSub, e0]
    grind
  · have e0 : pivotIn [[1, b], [0, e]] 1 1 1 = some 1 := by simp [pivotIn, he]
    unfold solveM turnM
    simp only [List.length_cons, List.length_nil, Nat.zero_add, Nat.reduceAdd, Nat.reduceSub, e0, if_true]
    unfold solveM
    rfl
theorem det2 (a b c d : Rat) : (solveM 2 2 0 [[a, b], [c, d]] 1).2 = a * d - b * c := by
  unfold solveM
  by_cases ha : a = 0
  · by_cases hc : c = 0
    · have e0 : pivotIn [[a, b], [c, d]] 0 2 0 = none := by simp [pivotIn, ha, hc]
      unfold turnM
      simp only [List.length_cons, List.length_nil, Nat.zero_add, Nat.sub_zero, e0]
      grind
    · have e0 : pivotIn [[a, b], [c, d]] 0 2 0 = some 1 := by simp [pivotIn, ha, hc]
      have e1 : turnM 2 0 [[a, b], [c, d]] 1 = turnM 2 0 [[c, d], [a, b]] (-1) := by
        have e2 : pivotIn [[c, d], [a, b]] 0 2 0 = some 0 := by simp [pivotIn, hc]
        unfold turnM
        simp only [List.length_cons, List.length_nil, Nat.zero_add, Nat.sub_zero, e0, e2]
        rfl
      rw [e1, two_first hc]
      simp only
      rw [two_last]
      grind
  · rw [two_first ha]
    simp only
    rw [two_last]
    grind
theorem det2_int (a b c d : Int) : (solveM 2 2 0 (ratM [[a, b], [c, d]]) 1).2 = ((a * d - b * c : Int) : Rat) := by
  show (solveM 2 2 0 [[(a : Rat), (b : Rat)], [(c : Rat), (d : Rat)]] 1).2 = _
  rw [det2]
  push_cast
  rfl
end Mine
-- Chain
set_option maxRecDepth 100000
namespace Mine
open PySem PySem.Spec PySem.Calls PyProof.Rows PyProof.Rows.LCg PySem.W
abbrev Pt := Int × Int
/-- values that are points, each a tuple of two ints -/
inductive Pts (led : List (Addr × Obj)) : List Value → List Pt → Prop
  | nil : Pts led [] []
  | cons {a : Addr} {x y : Int} {t u : Tok} {cs : List Value} {ps : List Pt} : (a, ({ cls := .type "tuple", data := .seq #[.int x t, .int y u] } : Obj)) ∈ led → Pts led cs ps → Pts led (.ref a :: cs) ((x, y) :: ps)
theorem Pts.mono {led led' : List (Addr × Obj)} {cs : List Value} {ps : List Pt} (h : Pts led cs ps) (hs : ∀ p ∈ led, p ∈ led') : Pts led' cs ps := by
  induction h with
  | nil => exact .nil
  | cons h _ ih => exact .cons (hs _ h) ih
theorem Pts.length {led : List (Addr × Obj)} {cs : List Value} {ps : List Pt} (h : Pts led cs ps) : cs.length = ps.length := by
  induction h with
  | nil => rfl
  | cons _ _ ih => simp [ih]
theorem Pts.get {led : List (Addr × Obj)} {cs : List Value} {ps : List Pt} (h : Pts led cs ps) : ∀ {i : Nat} {v : Value}, cs[i]? = some v →
    ∃ a x y t u, v = .ref a ∧ (a, ({ cls := .type "tuple", data := .seq #[.int x t, .int y u] } : Obj)) ∈ led ∧ ps[i]? = some (x, y) := by
  induction h with
  | nil => intro i v e; cases e
  | @cons a x y t u cs ps hm _ ih =>
    intro i v e
    cases i with
    | zero => cases e; exact ⟨a, x, y, t, u, rfl, hm, rfl⟩
    | succ i => exact ih e
theorem zip_get {α β : Type} {l : List α} {r : List β} {i : Nat} {a : α} {b : β} (h1 : l[i]? = some a) (h2 : r[i]? = some b) : (l.zip r)[i]? = some (a, b) := by
  rw [List.getElem?_zip_eq_some]; exact ⟨h1, h2⟩
theorem drop_get {α : Type} {l : List α} {i : Nat} {a : α} (h : l[i]? = some a) : l.drop i = a :: l.drop (i + 1) := by
  obtain ⟨hi, rfl⟩ := List.getElem?_eq_some_iff.mp h
  exact List.drop_eq_getElem_cons hi
/-- the fold of a loop that adds -/
noncomputable def addUp (f : Pt × Pt → Int) : List (Pt × Pt) → Int
  | [] => 0
  | a :: l => f a + addUp f l
theorem addUp_drop {f : Pt × Pt → Int} {l : List (Pt × Pt)} {i : Nat} {a : Pt × Pt} (h : l[i]? = some a) : addUp f (l.drop i) = f a + addUp f (l.drop (i + 1)) := by
  rw [drop_get h]; rfl
noncomputable def detP (a : Pt × Pt) : Int := a.1.1 * a.2.2 - a.1.2 * a.2.1
noncomputable def gcdP (a : Pt × Pt) : Int := (Int.gcd (a.2.1 - a.1.1) (a.2.2 - a.1.2) : Nat)
noncomputable def aboveL (ac up : Int) : List (Pt × Pt) → Int
  | [] => 0
  | (p, q) :: l => if p.1 ≤ ac ∧ ac ≤ q.1 then (q.1 - p.1) * (up - p.2) - (q.2 - p.2) * (ac - p.1) else aboveL ac up l
/-- every number of the points lies within a hundred -/
def Near (ps : List Pt) : Prop := ∀ p ∈ ps, -100 ≤ p.1 ∧ p.1 ≤ 100 ∧ -100 ≤ p.2 ∧ p.2 ≤ 100
end Mine
namespace Mine
open PySem PySem.Spec PySem.Calls PyProof.Rows PyProof.Rows.LCg PySem.W
theorem Pts.tail {led : List (Addr × Obj)} {v : Value} {cs : List Value} {ps : List Pt} (h : Pts led (v :: cs) ps) : Pts led cs (ps.drop 1) := by
  cases h with
  | cons _ h => exact h
theorem Pts.app {led : List (Addr × Obj)} {cs ds : List Value} {ps qs : List Pt} (h : Pts led cs ps) (h' : Pts led ds qs) : Pts led (cs ++ ds) (ps ++ qs) := by
  induction h with
  | nil => exact h'
  | cons m _ ih => exact .cons m ih
end Mine
namespace Mine
open PySem
theorem dec_bits {c D : Int} {i : Nat} (h : c * 10 ^ i = D) (hD : D.natAbs < 10 ^ 9) : Builtin.Int.intBits c ≤ 64 := by
  have h1 : c.natAbs * 10 ^ i = D.natAbs := by rw [← h, Int.natAbs_mul, Int.natAbs_pow]; rfl
  have h2 : c.natAbs ≤ D.natAbs := by rw [← h1]; exact Nat.le_mul_of_pos_right _ (Nat.pow_pos (by decide))
  exact intBits_le_64 (by omega) (by omega)
end Mine
namespace Mine
theorem nat100 {z : Int} (h1 : -100 ≤ z) (h2 : z ≤ 100) : z.natAbs ≤ 100 := by omega
theorem det_small {x y x' y' : Int} (h1 : -100 ≤ x) (h2 : x ≤ 100) (h3 : -100 ≤ y) (h4 : y ≤ 100) (h5 : -100 ≤ x') (h6 : x' ≤ 100) (h7 : -100 ≤ y') (h8 : y' ≤ 100) : (x * y' - y * x').natAbs < 10 ^ 9 := by
  have a1 : (x * y').natAbs ≤ 100 * 100 := by rw [Int.natAbs_mul]; exact Nat.mul_le_mul (nat100 h1 h2) (nat100 h7 h8)
  have a2 : (y * x').natAbs ≤ 100 * 100 := by rw [Int.natAbs_mul]; exact Nat.mul_le_mul (nat100 h3 h4) (nat100 h5 h6)
  exact Nat.lt_of_le_of_lt (Nat.le_trans (Int.natAbs_sub_le _ _) (Nat.add_le_add a1 a2)) (by decide)
end Mine
-- Two
set_option maxRecDepth 100000
namespace Mine
open PySem PySem.Spec PySem.Calls PyProof.Rows PyProof.Rows.LCg PySem.W
theorem rows2_wide {a b c d : Int} : ∀ zs ∈ [[a, b], [c, d]], zs.length = 2 := by
  intro zs hz
  simp only [List.mem_cons, List.not_mem_nil, or_false] at hz
  rcases hz with rfl | rfl <;> rfl
theorem rows2_bits {a b c d : Int} (h1 : -100 ≤ a) (h2 : a ≤ 100) (h3 : -100 ≤ b) (h4 : b ≤ 100) (h5 : -100 ≤ c) (h6 : c ≤ 100) (h7 : -100 ≤ d) (h8 : d ≤ 100) : ∀ zs ∈ [[a, b], [c, d]], ∀ z ∈ zs, z.natAbs < 2 ^ 10 := by
  intro zs hz z hm
  simp only [List.mem_cons, List.not_mem_nil, or_false] at hz
  rcases hz with rfl | rfl <;> (simp only [List.mem_cons, List.not_mem_nil, or_false] at hm; rcases hm with rfl | rfl <;> omega)
theorem intRows2 {led : List (Addr × Obj)} {r1 r2 : Addr} {k1 k2 : Nat} {a b c d : Int} {t1 t2 t3 t4 : Tok} (h1 : (r1, W.listOf #[Value.int a t1, Value.int b t2] k1) ∈ led) (h2 : (r2, W.listOf #[Value.int c t3, Value.int d t4] k2) ∈ led) : IntRows led [.ref r1, .ref r2] [[a, b], [c, d]] :=
  .cons ⟨r1, k1, [.int a t1, .int b t2], rfl, h1, .cons (.cons .nil)⟩ (.cons ⟨r2, k2, [.int c t3, .int d t4], rfl, h2, .cons (.cons .nil)⟩ .nil)
end Mine
namespace Mine
open PySem PySem.Spec PySem.Calls PyProof.Rows PyProof.Rows.LCg PySem.W
theorem fr_known5 {h₀ h : Heap} {L : Addr} {m : Str → Option Value} {a b c d e : Str} {va vb vc vd ve : Value} (F : Fr h₀ L h m) (ea : m a = some va) (eb : m b = some vb) (ec : m c = some vc) (ed : m d = some vd) (ee : m e = some ve) :
    Fr h₀ L h (fun z => if z = a then some va else if z = b then some vb else if z = c then some vc else if z = d then some vd else if z = e then some ve else m z) := by
  have : (fun z => if z = a then some va else if z = b then some vb else if z = c then some vc else if z = d then some vd else if z = e then some ve else m z) = m := by
    funext z
    by_cases h1 : z = a
    · subst h1; simp [ea]
    · by_cases h2 : z = b
      · subst h2; simp [h1, eb]
      · by_cases h3 : z = c
        · subst h3; simp [h1, h2, ec]
        · by_cases h4 : z = d
          · subst h4; simp [h1, h2, h3, ed]
          · by_cases h5 : z = e
            · subst h5; simp [h1, h2, h3, h4, ee]
            · simp [h1, h2, h3, h4, h5]
  rw [this]; exact F
/-- one place of the lattice counted -/
noncomputable def stepC (lo hi : List (Pt × Pt)) (ac up : Int) (s : Int × Int) : Int × Int :=
  if 0 ≤ aboveL ac up lo ∧ aboveL ac up hi ≤ 0 then
    if aboveL ac up lo = 0 ∨ aboveL ac up hi = 0 ∨ ac = 0 ∨ ac = 5 then (s.1, s.2 + 1) else (s.1 + 1, s.2)
  else s
noncomputable def colC (lo hi : List (Pt × Pt)) (ac : Int) : Nat → Int × Int → Int × Int
  | 0, s => s
  | j + 1, s => stepC lo hi ac (0 - 3 + (j : Int)) (colC lo hi ac j s)
noncomputable def allC (lo hi : List (Pt × Pt)) : Nat → Int × Int
  | 0 => (0, 0)
  | i + 1 => colC lo hi (i : Int) 8 (allC lo hi i)
end Mine
-- Plain1
set_option maxRecDepth 100000
set_option maxHeartbeats 4000000
namespace Mine
noncomputable def sumTo (f : Nat → Int) : Nat → Int
  | 0 => 0
  | k + 1 => sumTo f k + f k
noncomputable def lowP (o a0 a1 a2 : Int) : List Pt := [(0, 0 - a0), (1 + o, 0 - a1), (5, 0 - a2)]
noncomputable def highP (o b0 b1 b2 : Int) : List Pt := [(0, 1 + b0), (1 + o, 1 + b1), (5, 1 + b2)]
noncomputable def links (ps : List Pt) : List (Pt × Pt) := ps.zip (ps.drop 1)
noncomputable def dL (lo : List (Pt × Pt)) (ac up : Int) : Int × Int := if 0 ≤ aboveL ac up lo then (if aboveL ac up lo = 0 ∨ ac = 0 ∨ ac = 5 then (0, 1) else (1, 0)) else (0, 0)
noncomputable def dH (hi : List (Pt × Pt)) (ac up : Int) : Int × Int := if aboveL ac up hi ≤ 0 then (if aboveL ac up hi = 0 ∨ ac = 0 ∨ ac = 5 then (0, 1) else (1, 0)) else (0, 0)
noncomputable def WL (ps : List Pt) : Int := sumTo (fun i => sumTo (fun j => (dL (links ps) i (0 - 3 + (j : Int))).1) 4) 6
noncomputable def UL (ps : List Pt) : Int := sumTo (fun i => sumTo (fun j => (dL (links ps) i (0 - 3 + (j : Int))).2) 4) 6
noncomputable def WH (ps : List Pt) : Int := sumTo (fun i => sumTo (fun j => (dH (links ps) i (0 - 3 + ((4 + j : Nat) : Int))).1) 4) 6
noncomputable def UH (ps : List Pt) : Int := sumTo (fun i => sumTo (fun j => (dH (links ps) i (0 - 3 + ((4 + j : Nat) : Int))).2) 4) 6
theorem low_id : ∀ o < 4, ∀ a0 < 4, ∀ a1 < 4, ∀ a2 < 4, UL (lowP (o : Nat) (a0 : Nat) (a1 : Nat) (a2 : Nat)) = (Int.gcd (1 + (o : Int)) ((a0 : Int) - a1) : Nat) + (Int.gcd (4 - (o : Int)) ((a1 : Int) - a2) : Nat) + 1 + a0 + a2 ∧
    2 * WL (lowP (o : Nat) (a0 : Nat) (a1 : Nat) (a2 : Nat)) + UL (lowP (o : Nat) (a0 : Nat) (a1 : Nat) (a2 : Nat)) = (1 + (o : Int)) * (a0 + a1) + (4 - (o : Int)) * (a1 + a2) + 6 := by decide +kernel
theorem high_id : ∀ o < 4, ∀ a0 < 4, ∀ a1 < 4, ∀ a2 < 4, UH (highP (o : Nat) (a0 : Nat) (a1 : Nat) (a2 : Nat)) = (Int.gcd (1 + (o : Int)) ((a0 : Int) - a1) : Nat) + (Int.gcd (4 - (o : Int)) ((a1 : Int) - a2) : Nat) + 1 + a0 + a2 ∧
    2 * WH (highP (o : Nat) (a0 : Nat) (a1 : Nat) (a2 : Nat)) + UH (highP (o : Nat) (a0 : Nat) (a1 : Nat) (a2 : Nat)) = (1 + (o : Int)) * (2 + a0 + a1) + (4 - (o : Int)) * (2 + a1 + a2) - 4 := by decide +kernel
/-- the high chain lies above the lattice's lower half -/
theorem high_neg : ∀ o < 4, ∀ a0 < 4, ∀ a1 < 4, ∀ a2 < 4, ∀ i < 6, ∀ j < 4, aboveL (i : Nat) (0 - 3 + ((j : Nat) : Int)) (links (highP (o : Nat) (a0 : Nat) (a1 : Nat) (a2 : Nat))) < 0 := by decide +kernel
theorem low_pos : ∀ o < 4, ∀ a0 < 4, ∀ a1 < 4, ∀ a2 < 4, ∀ i < 6, ∀ j < 4, 0 < aboveL (i : Nat) (0 - 3 + ((4 + j : Nat) : Int)) (links (lowP (o : Nat) (a0 : Nat) (a1 : Nat) (a2 : Nat))) := by decide +kernel
end Mine
-- Plain1b
set_option maxRecDepth 100000
set_option maxHeartbeats 4000000
namespace Mine
theorem step_low {lo hi : List (Pt × Pt)} {ac up : Int} (h : aboveL ac up hi < 0) (s : Int × Int) : stepC lo hi ac up s = (s.1 + (dL lo ac up).1, s.2 + (dL lo ac up).2) := by
  have h1 : aboveL ac up hi ≤ 0 := by omega
  have h2 : ¬ aboveL ac up hi = 0 := by omega
  unfold stepC dL
  simp only [h1, h2, and_true, false_or]
  split
  · split <;> simp
  · simp
theorem step_high {lo hi : List (Pt × Pt)} {ac up : Int} (h : 0 < aboveL ac up lo) (s : Int × Int) : stepC lo hi ac up s = (s.1 + (dH hi ac up).1, s.2 + (dH hi ac up).2) := by
  have h1 : 0 ≤ aboveL ac up lo := by omega
  have h2 : ¬ aboveL ac up lo = 0 := by omega
  unfold stepC dH
  simp only [h1, h2, true_and, false_or]
  split
  · split <;> simp
  · simp
theorem colC_add {lo hi : List (Pt × Pt)} {ac : Int} {n : Nat} {d : Nat → Int × Int} (h : ∀ j, j < n → ∀ s, stepC lo hi ac (0 - 3 + (j : Int)) s = (s.1 + (d j).1, s.2 + (d j).2)) (s : Int × Int) : ∀ j, j ≤ n → colC lo hi ac j s = (s.1 + sumTo (fun k => (d k).1) j, s.2 + sumTo (fun k => (d k).2) j)
  | 0, _ => by simp [colC, sumTo]
  | j + 1, hj => by
    rw [colC, colC_add h s j (by omega), h j (by omega)]
    simp only [sumTo, Int.add_assoc]
theorem sumTo_congr {f g : Nat → Int} : ∀ {n : Nat}, (∀ j, j < n → f j = g j) → sumTo f n = sumTo g n
  | 0, _ => rfl
  | n + 1, h => by simp only [sumTo]; rw [sumTo_congr (n := n) fun j hj => h j (by omega), h n (by omega)]
theorem sumTo_eight (f : Nat → Int) : sumTo f 8 = sumTo f 4 + sumTo (fun j => f (4 + j)) 4 := by
  simp only [sumTo]
  show 0 + f 0 + f 1 + f 2 + f 3 + f 4 + f 5 + f 6 + f 7 = 0 + f 0 + f 1 + f 2 + f 3 + (0 + f 4 + f 5 + f 6 + f 7)
  omega
theorem sumTo_add (f g : Nat → Int) : ∀ n, sumTo (fun i => f i + g i) n = sumTo f n + sumTo g n
  | 0 => rfl
  | n + 1 => by simp only [sumTo]; rw [sumTo_add f g n]; omega
theorem allC_add {lo hi : List (Pt × Pt)} {n : Nat} {u v : Nat → Int} (h : ∀ i, i < n → ∀ s, colC lo hi (i : Int) 8 s = (s.1 + u i, s.2 + v i)) : ∀ i, i ≤ n → allC lo hi i = (sumTo u i, sumTo v i)
  | 0, _ => rfl
  | i + 1, hi => by
    rw [allC, allC_add h i (by omega), h i (by omega)]
    rfl
theorem counted_split {ps qs : List Pt} (h1 : ∀ i, i < 6 → ∀ j, j < 4 → aboveL (i : Nat) (0 - 3 + ((j : Nat) : Int)) (links qs) < 0) (h2 : ∀ i, i < 6 → ∀ j, j < 4 → 0 < aboveL (i : Nat) (0 - 3 + ((4 + j : Nat) : Int)) (links ps)) :
    allC (links ps) (links qs) 6 = (WL ps + WH qs, UL ps + UH qs) := by
  have key : ∀ i : Nat, i < 6 → ∀ s, colC (links ps) (links qs) (i : Int) 8 s = (s.1 + (sumTo (fun j => (dL (links ps) i (0 - 3 + (j : Int))).1) 4 + sumTo (fun j => (dH (links qs) i (0 - 3 + ((4 + j : Nat) : Int))).1) 4), s.2 + (sumTo (fun j => (dL (links ps) i (0 - 3 + (j : Int))).2) 4 + sumTo (fun j => (dH (links qs) i (0 - 3 + ((4 + j : Nat) : Int))).2) 4)) := by
    intro i hi s
    rw [colC_add (n := 8) (d := fun j => if j < 4 then dL (links ps) i (0 - 3 + (j : Int)) else dH (links qs) i (0 - 3 + (j : Int))) ?_ s 8 (Nat.le_refl 8)]
    · rw [sumTo_eight, sumTo_eight]
      refine Prod.ext ?_ ?_
      · refine congrArg (s.1 + ·) (congr (congrArg _ (sumTo_congr fun j hj => ?_)) (sumTo_congr fun j hj => ?_))
        · rw [if_pos hj]
        · rw [if_neg (by omega)]
      · refine congrArg (s.2 + ·) (congr (congrArg _ (sumTo_congr fun j hj => ?_)) (sumTo_congr fun j hj => ?_))
        · rw [if_pos hj]
        · rw [if_neg (by omega)]
    · intro j hj s
      by_cases h4 : j < 4
      · rw [if_pos h4]; exact step_low (h1 i hi j h4) s
      · rw [if_neg h4]
        obtain ⟨k, rfl⟩ : ∃ k, j = 4 + k := ⟨j - 4, by omega⟩
        exact step_high (h2 i hi k (by omega)) s
  rw [allC_add key 6 (Nat.le_refl 6), sumTo_add, sumTo_add]
  rfl
end Mine
-- Plain1c
set_option maxRecDepth 100000
set_option maxHeartbeats 4000000
namespace Mine
noncomputable def cyc (ps : List Pt) : List (Pt × Pt) := ps.zip (ps.drop 1 ++ ps.take 1)
noncomputable def cornersP (o p a0 a1 a2 b0 b1 b2 : Int) : List Pt := [(0, 0 - a0), (1 + o, 0 - a1), (5, 0 - a2), (5, 1 + b2), (1 + p, 1 + b1), (0, 1 + b0)]
noncomputable def part0 (o p a0 a1 b0 b1 : Int) : List Pt := [(0, 0 - a0), (1 + o, 0 - a1), (1 + p, 1 + b1), (0, 1 + b0)]
noncomputable def part1 (o p a1 a2 b1 b2 : Int) : List Pt := [(1 + o, 0 - a1), (5, 0 - a2), (5, 1 + b2), (1 + p, 1 + b1)]
theorem twice_poly (o p a0 a1 a2 b0 b1 b2 : Int) : addUp detP (cyc (cornersP o p a0 a1 a2 b0 b1 b2)) = ((1 + o) * (a0 + a1) + (4 - o) * (a1 + a2)) + ((1 + p) * (2 + b0 + b1) + (4 - p) * (2 + b1 + b2)) := by
  simp [cyc, cornersP, addUp, detP]
  grind
theorem parts_poly (o p a0 a1 a2 b0 b1 b2 : Int) : addUp detP (cyc (part0 o p a0 a1 b0 b1)) + addUp detP (cyc (part1 o p a1 a2 b1 b2)) = addUp detP (cyc (cornersP o p a0 a1 a2 b0 b1 b2)) := by
  simp [cyc, cornersP, part0, part1, addUp, detP]
  grind
noncomputable def okP (ps : List Pt) : Bool := decide (0 < addUp detP (cyc ps)) && decide ((addUp detP (cyc ps) - addUp gcdP (cyc ps)) % 2 = 0)
noncomputable def ok0 : Nat → Nat → Nat → Nat → Nat → Nat → Bool := fun o p a0 a1 b0 b1 => okP (part0 o p a0 a1 b0 b1)
noncomputable def ok1 : Nat → Nat → Nat → Nat → Nat → Nat → Bool := fun o p a1 a2 b1 b2 => okP (part1 o p a1 a2 b1 b2)
noncomputable def all4 (f : Nat → Bool) : Bool := f 0 && f 1 && f 2 && f 3
theorem all4_of {f : Nat → Bool} (h : all4 f = true) {i : Nat} (hi : i < 4) : f i = true := by
  unfold all4 at h
  simp only [Bool.and_eq_true] at h
  match i, hi with
  | 0, _ => exact h.1.1.1
  | 1, _ => exact h.1.1.2
  | 2, _ => exact h.1.2
  | 3, _ => exact h.2
theorem all_ok0 : (all4 fun o => all4 fun p => all4 fun a0 => all4 fun a1 => all4 fun b0 => all4 fun b1 => ok0 o p a0 a1 b0 b1) = true := by decide +kernel
theorem all_ok1 : (all4 fun o => all4 fun p => all4 fun a0 => all4 fun a1 => all4 fun b0 => all4 fun b1 => ok1 o p a0 a1 b0 b1) = true := by decide +kernel
theorem okP_of {ps : List Pt} (h : okP ps = true) : 0 < addUp detP (cyc ps) ∧ (addUp detP (cyc ps) - addUp gcdP (cyc ps)) % 2 = 0 := by
  unfold okP at h
  simpa using h
theorem part0_ok {o p a0 a1 b0 b1 : Nat} (ho : o < 4) (hp : p < 4) (h1 : a0 < 4) (h2 : a1 < 4) (h3 : b0 < 4) (h4 : b1 < 4) : okP (part0 o p a0 a1 b0 b1) = true :=
  all4_of (all4_of (all4_of (all4_of (all4_of (all4_of all_ok0 ho) hp) h1) h2) h3) h4
theorem part1_ok {o p a1 a2 b1 b2 : Nat} (ho : o < 4) (hp : p < 4) (h1 : a1 < 4) (h2 : a2 < 4) (h3 : b1 < 4) (h4 : b2 < 4) : okP (part1 o p a1 a2 b1 b2) = true :=
  all4_of (all4_of (all4_of (all4_of (all4_of (all4_of all_ok1 ho) hp) h1) h2) h3) h4
end Mine
-- Plain1d
set_option maxRecDepth 100000
set_option maxHeartbeats 4000000
namespace Mine
theorem sub_low (a b : Int) : 0 - a - (0 - b) = b - a := by omega
theorem sub_high (a b : Int) : 1 + a - (1 + b) = a - b := by omega
theorem abs_up (a b : Nat) : (1 + (b : Int) - (0 - a)).natAbs = 1 + b + a := by omega
theorem abs_dn (a b : Nat) : (0 - (a : Int) - (1 + b)).natAbs = 1 + b + a := by omega
theorem five_less (a : Int) : 5 - (1 + a) = 4 - a := by omega
theorem gcd_up (a b : Int) : (Int.gcd (0 - a) b : Nat) = Int.gcd a b := by rw [show (0 - a) = -a by omega, Int.neg_gcd]
theorem border_corners (o p a0 a1 a2 b0 b1 b2 : Nat) : addUp gcdP (cyc (cornersP o p a0 a1 a2 b0 b1 b2)) =
    ((Int.gcd (1 + (o : Int)) ((a0 : Int) - a1) : Nat) + (Int.gcd (4 - (o : Int)) ((a1 : Int) - a2) : Nat) + 1 + a0 + a2) + ((Int.gcd (1 + (p : Int)) ((b0 : Int) - b1) : Nat) + (Int.gcd (4 - (p : Int)) ((b1 : Int) - b2) : Nat) + 1 + b0 + b2) := by
  have e : addUp gcdP (cyc (cornersP o p a0 a1 a2 b0 b1 b2)) = (Int.gcd (1 + (o : Int) - 0) (0 - (a1 : Int) - (0 - a0)) : Nat) + ((Int.gcd (5 - (1 + (o : Int))) (0 - (a2 : Int) - (0 - a1)) : Nat) + ((Int.gcd (5 - 5) (1 + (b2 : Int) - (0 - a2)) : Nat) + ((Int.gcd (1 + (p : Int) - 5) (1 + (b1 : Int) - (1 + b2)) : Nat) + ((Int.gcd (0 - (1 + (p : Int))) (1 + (b0 : Int) - (1 + b1)) : Nat) + (((Int.gcd (0 - 0) (0 - (a0 : Int) - (1 + b0)) : Nat) : Int) + 0))))) := rfl
  rw [e]
  have e1 : Int.gcd (1 + (o : Int) - 0) (0 - (a1 : Int) - (0 - a0)) = Int.gcd (1 + (o : Int)) ((a0 : Int) - a1) := by rw [Int.sub_zero, sub_low]
  have e2 : Int.gcd (5 - (1 + (o : Int))) (0 - (a2 : Int) - (0 - a1)) = Int.gcd (4 - (o : Int)) ((a1 : Int) - a2) := by rw [five_less, sub_low]
  have e3 : Int.gcd (5 - 5) (1 + (b2 : Int) - (0 - a2)) = 1 + b2 + a2 := by rw [show (5 - 5 : Int) = 0 from rfl, Int.zero_gcd, abs_up]
  have e4 : Int.gcd (1 + (p : Int) - 5) (1 + (b1 : Int) - (1 + b2)) = Int.gcd (4 - (p : Int)) ((b1 : Int) - b2) := by
    rw [show (1 + (p : Int) - 5) = 0 - (4 - p) by omega, gcd_up, sub_high]
  have e5 : Int.gcd (0 - (1 + (p : Int))) (1 + (b0 : Int) - (1 + b1)) = Int.gcd (1 + (p : Int)) ((b0 : Int) - b1) := by
    rw [gcd_up, sub_high]
  have e6 : Int.gcd (0 - 0) (0 - (a0 : Int) - (1 + b0)) = 1 + b0 + a0 := by rw [show (0 - 0 : Int) = 0 from rfl, Int.zero_gcd, abs_dn]
  rw [e1, e2, e3, e4, e5, e6]
  omega
theorem border_parts (o p a0 a1 a2 b0 b1 b2 : Nat) : addUp gcdP (cyc (part0 o p a0 a1 b0 b1)) + addUp gcdP (cyc (part1 o p a1 a2 b1 b2)) = addUp gcdP (cyc (cornersP o p a0 a1 a2 b0 b1 b2)) + 2 * (Int.gcd (1 + (o : Int) - (1 + p)) (1 + (b1 : Int) - (0 - a1)) : Nat) := by
  have e : addUp gcdP (cyc (cornersP o p a0 a1 a2 b0 b1 b2)) = (Int.gcd (1 + (o : Int) - 0) (0 - (a1 : Int) - (0 - a0)) : Nat) + ((Int.gcd (5 - (1 + (o : Int))) (0 - (a2 : Int) - (0 - a1)) : Nat) + ((Int.gcd (5 - 5) (1 + (b2 : Int) - (0 - a2)) : Nat) + ((Int.gcd (1 + (p : Int) - 5) (1 + (b1 : Int) - (1 + b2)) : Nat) + ((Int.gcd (0 - (1 + (p : Int))) (1 + (b0 : Int) - (1 + b1)) : Nat) + (((Int.gcd (0 - 0) (0 - (a0 : Int) - (1 + b0)) : Nat) : Int) + 0))))) := rfl
  have f0 : addUp gcdP (cyc (part0 o p a0 a1 b0 b1)) = (Int.gcd (1 + (o : Int) - 0) (0 - (a1 : Int) - (0 - a0)) : Nat) + ((Int.gcd (1 + (p : Int) - (1 + o)) (1 + (b1 : Int) - (0 - a1)) : Nat) + ((Int.gcd (0 - (1 + (p : Int))) (1 + (b0 : Int) - (1 + b1)) : Nat) + (((Int.gcd (0 - 0) (0 - (a0 : Int) - (1 + b0)) : Nat) : Int) + 0))) := rfl
  have f1 : addUp gcdP (cyc (part1 o p a1 a2 b1 b2)) = (Int.gcd (5 - (1 + (o : Int))) (0 - (a2 : Int) - (0 - a1)) : Nat) + ((Int.gcd (5 - 5) (1 + (b2 : Int) - (0 - a2)) : Nat) + ((Int.gcd (1 + (p : Int) - 5) (1 + (b1 : Int) - (1 + b2)) : Nat) + (((Int.gcd (1 + (o : Int) - (1 + p)) (0 - (a1 : Int) - (1 + b1)) : Nat) : Int) + 0))) := rfl
  have g0 : Int.gcd (1 + (p : Int) - (1 + o)) (1 + (b1 : Int) - (0 - a1)) = Int.gcd (1 + (o : Int) - (1 + p)) (1 + (b1 : Int) - (0 - a1)) := by
    rw [show (1 + (p : Int) - (1 + o)) = 0 - (1 + (o : Int) - (1 + p)) by omega, gcd_up]
  have g1 : Int.gcd (1 + (o : Int) - (1 + p)) (0 - (a1 : Int) - (1 + b1)) = Int.gcd (1 + (o : Int) - (1 + p)) (1 + (b1 : Int) - (0 - a1)) := by
    rw [show (0 - (a1 : Int) - (1 + b1)) = -(1 + (b1 : Int) - (0 - a1)) by omega, Int.gcd_neg]
  rw [e, f0, f1, g0, g1]
  omega
theorem half_two {a : Int} (h : a % 2 = 0) : (a + 2).fdiv 2 + (a + 2).fdiv 2 = a + 2 := by
  rw [Int.fdiv_eq_ediv_of_nonneg _ (by decide)]
  omega
theorem lin_low {W U P : Int} (h : 2 * W + U = P + 6) : P = 2 * W + U - 6 := by omega
theorem lin_high {W U P : Int} (h : 2 * W + U = P - 4) : P = 2 * W + U + 4 := by omega
theorem lin_sum (a b c d : Int) : 2 * a + b - 6 + (2 * c + d + 4) = 2 * (a + c) + (b + d) - 2 := by omega
theorem lin_end {x y G S V : Int} (h : (x + x) + (y + y) = (2 * S + V - 2) - (V + 2 * G) + 4) : x + y + G - 1 = S := by omega
theorem lin_mid {A0 A1 B0 B1 T B G : Int} (h1 : A0 + A1 = T) (h2 : B0 + B1 = B + 2 * G) : (A0 - B0 + 2) + (A1 - B1 + 2) = T - (B + 2 * G) + 4 := by omega
/-- the law's linear part -/
theorem law1_lin {WL UL WH UH P X L H T B A0 A1 B0 B1 G : Int} (l1 : UL = L) (l2 : 2 * WL + UL = P + 6) (k1 : UH = H) (k2 : 2 * WH + UH = X - 4)
    (ht : T = P + X) (hb : B = L + H) (hpp : A0 + A1 = T) (hbp : B0 + B1 = B + 2 * G) (q0 : (A0 - B0) % 2 = 0) (q1 : (A1 - B1) % 2 = 0) :
    T = 2 * (WL + WH) + (UL + UH) - 2 ∧ B = UL + UH ∧ (A0 - B0 + 2).fdiv 2 + (A1 - B1 + 2).fdiv 2 + G - 1 = WL + WH := by
  have r1 : T = 2 * (WL + WH) + (UL + UH) - 2 := by rw [ht, lin_low l2, lin_high k2]; exact lin_sum ..
  have r2 : B = UL + UH := by rw [hb, l1, k1]
  refine ⟨r1, r2, lin_end (V := UL + UH) ?_⟩
  rw [half_two q0, half_two q1, lin_mid hpp hbp, r1, r2]
/-- the law in plain numbers -/
theorem law1_plain {o p a0 a1 a2 b0 b1 b2 : Nat} (ho : o < 4) (hp : p < 4) (h0 : a0 < 4) (h1 : a1 < 4) (h2 : a2 < 4) (h3 : b0 < 4) (h4 : b1 < 4) (h5 : b2 < 4) :
    ∃ W U : Int, allC (links (lowP o a0 a1 a2)) (links (highP p b0 b1 b2)) 6 = (W, U) ∧ addUp detP (cyc (cornersP o p a0 a1 a2 b0 b1 b2)) = 2 * W + U - 2 ∧ addUp gcdP (cyc (cornersP o p a0 a1 a2 b0 b1 b2)) = U ∧
      addUp detP (cyc (part0 o p a0 a1 b0 b1)) + addUp detP (cyc (part1 o p a1 a2 b1 b2)) = addUp detP (cyc (cornersP o p a0 a1 a2 b0 b1 b2)) ∧ 0 < addUp detP (cyc (part0 o p a0 a1 b0 b1)) ∧ 0 < addUp detP (cyc (part1 o p a1 a2 b1 b2)) ∧
      (addUp detP (cyc (part0 o p a0 a1 b0 b1)) - addUp gcdP (cyc (part0 o p a0 a1 b0 b1)) + 2).fdiv 2 + (addUp detP (cyc (part1 o p a1 a2 b1 b2)) - addUp gcdP (cyc (part1 o p a1 a2 b1 b2)) + 2).fdiv 2 + (Int.gcd (1 + (o : Int) - (1 + p)) (1 + (b1 : Int) - (0 - a1)) : Nat) - 1 = W := by
  obtain ⟨l1, l2⟩ := low_id o ho a0 h0 a1 h1 a2 h2
  obtain ⟨k1, k2⟩ := high_id p hp b0 h3 b1 h4 b2 h5
  have hs := counted_split (ps := lowP o a0 a1 a2) (qs := highP p b0 b1 b2) (fun i hi j hj => high_neg p hp b0 h3 b1 h4 b2 h5 i hi j hj) (fun i hi j hj => low_pos o ho a0 h0 a1 h1 a2 h2 i hi j hj)
  have ht := twice_poly o p a0 a1 a2 b0 b1 b2
  have hb := border_corners o p a0 a1 a2 b0 b1 b2
  have hpp := parts_poly o p a0 a1 a2 b0 b1 b2
  have hbp := border_parts o p a0 a1 a2 b0 b1 b2
  obtain ⟨p0, q0⟩ := okP_of (part0_ok ho hp h0 h1 h3 h4)
  obtain ⟨p1, q1⟩ := okP_of (part1_ok ho hp h1 h2 h4 h5)
  obtain ⟨r1, r2, r3⟩ := law1_lin l1 l2 k1 k2 ht hb hpp hbp q0 q1
  exact ⟨_, _, hs, r1, r2, hpp, p0, p1, r3⟩
end Mine
-- LawLib1
set_option maxRecDepth 100000
namespace Mine
open PySem PySem.Spec PySem.Calls PyProof.Rows PyProof.Rows.LCg PySem.W
theorem Ints.of {vs : List Value} {ns : List Int} (h : IntsAre vs ns) : Ints vs ns := by
  induction h with
  | nil => exact .nil
  | cons n t _ ih => exact .cons ih

theorem hoff0 (P Y C : Addr) (o1 o2 : Obj) (h : @LT.lt Nat _ Y P ∧ @LT.lt Nat _ C P) : OwnOff [(Y, o1), (C, o2)] [P] := fun p hp x hx => by
  rw [List.mem_singleton.mp hx]
  simp only [List.mem_cons, List.not_mem_nil, or_false] at hp
  rcases hp with rfl | rfl
  · exact Nat.ne_of_lt h.1
  · exact Nat.ne_of_lt h.2
end Mine
-- LawLib2
set_option maxHeartbeats 4000000
set_option maxRecDepth 100000
namespace Mine
open PySem PySem.Spec PySem.Calls PyProof.Rows PyProof.Rows.LCg
section
variable {prog : Program} {w : World} {A : Around} {E : Value → Shared → Prop} {s : Shared} {h₀ : Heap} {L : Addr} {m : Str → Option Value} {env : Env} {led : List (Addr × Obj)}
theorem IterA1.tupleS {elt : Expr} {x : Str} {scope : Scope} {cl : List (Str × Addr)} {y : Str} {Q : Flow → Shared → Prop} {ax : Addr} {its : Array Value} {k : Nat} (hh : A.handled = none) (F : Fr h₀ L s.heap m) (N : News h₀ L s.heap led) (hm : (ax, ({ cls := .type "tuple", data := .seq its k } : Obj)) ∈ led) (hsz : its.size ≤ sizeLine)
    (J : Nat → List Value → List (Addr × Obj) → Prop) (h0 : J 0 [] led)
    (turn : ∀ i v ys led₁ own C oC m₂ h tk (E' : Value → Shared → Prop), i < its.size → its[i]? = some v → J i ys led₁ → (C, oC) ∈ own → (∀ q ∈ own, q.1 = ax ∨ ∀ p ∈ led, p.1 < q.1) → NsObj oC m₂ → m₂ x = some v → Fr h₀ L h m → News h₀ L h (own ++ led₁) →
      wpAny (model prog w) A (eval elt (compEnvC scope cl C env)) (CompOut h₀ L m { s with heap := h, toks := tk } own led₁ (fun y led₂ => J (i + 1) (ys ++ [y]) led₂)) E' { s with heap := h, toks := tk })
    (fin : ∀ D h tk ys led₁, Fr h₀ L h (fun z => if z = y then some (.ref D) else m z) → News h₀ L h ((D, lst ys) :: led₁) → (∀ p ∈ led₁, p.1 ≠ D) → (∀ p ∈ led, p.1 < D) → ys.length = its.size → J its.size ys led₁ → Q .next { s with heap := h, toks := tk }) :
    IterA1 prog w A E h₀ L m env elt x scope cl y Q (.ref ax) s := by
  have hl : s.heap.IsTuple ax its := ⟨_, (N _ hm).1, rfl, _, rfl⟩
  have hne : ax ≠ s.heap.objs.size := Nat.ne_of_lt (Heap.lt_size (N _ hm).1)
  refine wpAny_pyIter_tuple hl ?_
  refine ⟨s.heap.objs.size, _, _, its.size, _, _, led, J, rfl, Walks.tuple hh s.heap.objs.size ax hne its, hsz, ⟨⟨_, Heap.get?_push_size _ rfl, rfl, rfl⟩, hl.at fun o e => Heap.get?_push_of_some _ e⟩, ?_, F.push _, (fun p hp => ⟨Heap.get?_push_of_some _ (N p hp).1, (N p hp).2⟩), ?_, ?_, ?_, h0, ?_, ?_⟩
  · rintro i h ⟨⟨o, e, _⟩, o', e', _⟩ b hb
    rcases List.mem_cons.mp hb with rfl | hb
    · exact ⟨o, e⟩
    · rw [List.mem_singleton.mp hb]; exact ⟨o', e'⟩
  · intro hb
    rcases List.mem_cons.mp hb with e | hb
    · exact absurd F.ns.lt (e ▸ Nat.lt_irrefl _)
    · exact (N _ hm).2.1 (List.mem_singleton.mp hb).symm
  · intro b hb
    rw [List.mem_singleton.mp hb]
    exact next_is_new F
  · intro p hp hI
    exact absurd (Heap.lt_size (N p hp).1) ((List.mem_singleton.mp hI) ▸ Nat.lt_irrefl _)
  · exact fun i v ys led₁ own C oC m₂ h tk E' a b c d o e => turn i v ys led₁ own C oC m₂ h tk E' a b c d (fun q hq => (o q hq).elim (fun hf => (List.mem_cons.mp hf).elim (fun e1 => .inr fun p hp => by rw [e1]; exact Heap.lt_size (N p hp).1) (fun hf => .inl (List.mem_singleton.mp hf))) .inr) e
  · intro D h tk ys led₁ N' hD hlt hlen hJ
    exact ⟨D, _, rfl, (N' _ List.mem_cons_self).1, fun h' tk' F' N'' => fin D h' _ ys led₁ F' N'' hD hlt hlen hJ⟩
end
end Mine
namespace Mine
open PySem PySem.Spec PySem.Calls PyProof.Rows PyProof.Rows.LCg PySem.W
noncomputable def ptsOf (f : Int → Int) (xs : List Int) (ds : List Nat) : List Pt := List.zipWith (fun x (d : Nat) => (x, f d)) xs ds
theorem ptsOf_snoc {f : Int → Int} {x : Int} {d : Nat} : ∀ {xs : List Int} {ds : List Nat} {i : Nat}, ds.length = i → xs[i]? = some x → ptsOf f xs (ds ++ [d]) = ptsOf f xs ds ++ [(x, f d)]
  | [], _, _, _, h => by simp at h
  | y :: xs, [], i, hl, h => by
    subst hl
    have e : y = x := by simpa using h
    subst e
    simp [ptsOf]
  | y :: xs, e :: ds, i, hl, h => by
    subst hl
    have h' : xs[ds.length]? = some x := by simpa using h
    have ih := ptsOf_snoc (f := f) (d := d) (xs := xs) (ds := ds) rfl h'
    show (y, f e) :: ptsOf f xs (ds ++ [d]) = (y, f e) :: (ptsOf f xs ds ++ [(x, f d)])
    rw [ih]
theorem Pts.snoc {led : List (Addr × Obj)} {cs : List Value} {ps : List Pt} {a : Addr} {x y : Int} {t u : Tok} (h : Pts led cs ps) (hm : (a, ({ cls := .type "tuple", data := .seq #[.int x t, .int y u] } : Obj)) ∈ led) : Pts led (cs ++ [.ref a]) (ps ++ [(x, y)]) := h.app (.cons hm .nil)
theorem hid7 {G : Prop} (h : ∀ H : Prop, (G → H) → H) : G := h G id
theorem News.drop' {h₀ h : Heap} {L : Addr} {news news' : List (Addr × Obj)} (N : News h₀ L h news') (hs : ∀ p ∈ news, p ∈ news') : News h₀ L h news := fun p hp => N p (hs p hp)
/-- what a comprehension that draws has made behind i turns: the draws ds, the points tl -/
def DrawnJ (P Y : Addr) (b0 : Nat) (f : Int → Int) (xs : List Int) (rest : List (Addr × Obj)) (i : Nat) (ys : List Value) (led₁ : List (Addr × Obj)) : Prop :=
  ∃ (tl : List (Addr × Obj)) (ds : List Nat) (t : Tok) (k : Nat), ds.length = i ∧ (∀ d ∈ ds, d < 4) ∧ led₁ = tl ++ ((P, { cls := .type "list", data := .seq (List.toArray [.ref Y, .int ((b0 + i : Nat) : Int) t]) k }) :: rest) ∧ (∀ p ∈ tl, P < p.1) ∧ Pts tl ys (ptsOf f xs ds)
theorem drawn_end {h₀ h' : Heap} {L P Y x : Addr} {b0 : Nat} {f : Int → Int} {xs : List Int} {rest : List (Addr × Obj)} {i : Nat} {ys : List Value} {m : Str → Option Value} {s₁ : Shared} {tk : Nat} {own tl : List (Addr × Obj)} {ds : List Nat} {d : Nat} {z : Int} {t t1 t2 tI : Tok} {k kI : Nat} {L₀ : List (Addr × Obj)}
    (F : Fr h₀ L h' m) (N : News h₀ L h' ((x, { cls := .type "tuple", data := .seq #[.int z t1, .int (f d) t2] }) :: (P, { cls := .type "list", data := .seq (List.toArray [.ref Y, .int ((b0 + i + 1 : Nat) : Int) t]) k }) :: (own ++ (tl ++ rest))))
    (hl : AllLt x ((P, ({ cls := .type "list", data := .seq (List.toArray [.ref Y, .int ((b0 + i + 1 : Nat) : Int) t]) k } : Obj)) :: (own ++ (tl ++ rest)))) (hdl : ds.length = i) (hd4 : ∀ d ∈ ds, d < 4) (hd : d < 4) (hx : xs[i]? = some z) (htl : ∀ p ∈ tl, P < p.1) (hpt : Pts tl ys (ptsOf f xs ds))
    (hL : L₀ = tl ++ ((P, { cls := .type "list", data := .seq (List.toArray [.ref Y, .int ((b0 + i : Nat) : Int) tI]) kI }) :: rest)) :
    CompOut h₀ L m s₁ own L₀ (fun y led₂ => DrawnJ P Y b0 f xs rest (i + 1) (ys ++ [y]) led₂) (.ref x) { s₁ with heap := h', toks := tk } := by
  subst hL
  have hall := lt_of_all hl
  refine ⟨h', tk, (x, { cls := .type "tuple", data := .seq #[.int z t1, .int (f d) t2] }) :: (tl ++ ((P, { cls := .type "list", data := .seq (List.toArray [.ref Y, .int ((b0 + i + 1 : Nat) : Int) t]) k }) :: rest)), rfl, F, fun p hp => N p ?_, fun p hp => ?_,
    ⟨(x, { cls := .type "tuple", data := .seq #[.int z t1, .int (f d) t2] }) :: tl, ds ++ [d], t, k, by rw [List.length_append, hdl]; rfl, fun e he => ?_, rfl, fun p hp => ?_, ?_⟩⟩
  · simp only [List.mem_append, List.mem_cons] at hp ⊢
    rcases hp with h | h | h | h | h
    · exact .inr (.inr (.inl h))
    · exact .inl h
    · exact .inr (.inr (.inr (.inl h)))
    · exact .inr (.inl h)
    · exact .inr (.inr (.inr (.inr h)))
  · rcases List.mem_cons.mp hp with rfl | hp
    · exact .inr fun q hq => hall q (List.mem_cons_of_mem _ (List.mem_append_left _ hq))
    · refine .inl ?_
      rcases List.mem_append.mp hp with hp | hp
      · exact ⟨p, List.mem_append_left _ hp, rfl⟩
      · rcases List.mem_cons.mp hp with rfl | hp
        · exact ⟨_, List.mem_append_right _ List.mem_cons_self, rfl⟩
        · exact ⟨p, List.mem_append_right _ (List.mem_cons_of_mem _ hp), rfl⟩
  · rcases List.mem_append.mp he with he | he
    · exact hd4 e he
    · rw [List.mem_singleton.mp he]; exact hd
  · rcases List.mem_cons.mp hp with rfl | hp
    · exact hall _ List.mem_cons_self
    · exact htl p hp
  · rw [ptsOf_snoc hdl hx]
    exact (hpt.mono fun p hp => List.mem_cons_of_mem _ hp).snoc List.mem_cons_self
theorem drawn_sub {own tl rest : List (Addr × Obj)} {q : Addr × Obj} : ∀ p ∈ q :: (own ++ (tl ++ rest)), p ∈ own ++ (tl ++ (q :: rest)) := fun p hp => by
  simp only [List.mem_append, List.mem_cons] at hp ⊢
  rcases hp with h | h | h | h
  · exact .inr (.inr (.inl h))
  · exact .inl h
  · exact .inr (.inl h)
  · exact .inr (.inr (.inr h))
/-- nothing of the turn's ledger lies at the bag -/
theorem drawn_off {P X : Addr} {oP : Obj} {own tl rest : List (Addr × Obj)} (hown : ∀ q ∈ own, q.1 = X ∨ ∀ p ∈ (P, oP) :: rest, p.1 < q.1) (hX : X ≠ P) (htl : ∀ p ∈ tl, P < p.1) (hr : OwnOff rest [P]) : OwnOff (own ++ (tl ++ rest)) [P] := fun p hp x hx => by
  rw [List.mem_singleton.mp hx]
  rcases List.mem_append.mp hp with hp | hp
  · rcases hown p hp with e | hall
    · rw [e]; exact hX
    · exact Ne.symm (Nat.ne_of_lt (hall _ List.mem_cons_self))
  · rcases List.mem_append.mp hp with hp | hp
    · exact Ne.symm (Nat.ne_of_lt (htl p hp))
    · exact hr p hp _ List.mem_cons_self
theorem Pts.three {led : List (Addr × Obj)} {ys : List Value} {p q r : Pt} (h : Pts led ys [p, q, r]) : ∃ a b c, ys = [.ref a, .ref b, .ref c] := by
  cases h with
  | cons _ h => cases h with
    | cons _ h => cases h with
      | cons _ h => cases h; exact ⟨_, _, _, rfl⟩
theorem ptsOf_three {f : Int → Int} {x y z : Int} {ds : List Nat} (hl : ds.length = 3) : ∃ a b c, ds = [a, b, c] ∧ ptsOf f [x, y, z] ds = [(x, f (a : Nat)), (y, f (b : Nat)), (z, f (c : Nat))] := by
  match ds, hl with
  | [a, b, c], _ => exact ⟨a, b, c, rfl, rfl⟩
theorem News.pick {h₀ h : Heap} {L : Addr} {x y z : Addr × Obj} {l : List (Addr × Obj)} (N : News h₀ L h (x :: y :: z :: l)) : News h₀ L h (z :: x :: l) := fun p hp => N p (by
  simp only [List.mem_cons] at hp ⊢
  rcases hp with h | h | h
  · exact .inr (.inr (.inl h))
  · exact .inl h
  · exact .inr (.inr (.inr h)))
theorem own_one {rest : List (Addr × Obj)} {P : Addr} (h : ∀ p ∈ rest, p.1 ≠ P) : OwnOff rest [P] := fun p hp x hx => by
  rw [List.mem_singleton.mp hx]
  exact h p hp
theorem off3 {P X Y C : Addr} {o1 o2 o3 : Obj} (h1 : @LT.lt Nat _ P X) (h2 : @LT.lt Nat _ Y P) (h3 : @LT.lt Nat _ C P) : ∀ p ∈ [(X, o1), (Y, o2), (C, o3)], p.1 ≠ P := fun p hp => by
  simp only [List.mem_cons, List.not_mem_nil, or_false] at hp
  rcases hp with rfl | rfl | rfl
  · exact Ne.symm (Nat.ne_of_lt h1)
  · exact Nat.ne_of_lt h2
  · exact Nat.ne_of_lt h3
theorem News.pull {h₀ h : Heap} {L : Addr} {x y q : Addr × Obj} {tl l : List (Addr × Obj)} (N : News h₀ L h (x :: y :: (tl ++ q :: l))) : News h₀ L h (q :: x :: y :: (tl ++ l)) := fun p hp => N p (by
  simp only [List.mem_cons, List.mem_append] at hp ⊢
  rcases hp with h | h | h | h | h
  · exact .inr (.inr (.inr (.inl h)))
  · exact .inl h
  · exact .inr (.inl h)
  · exact .inr (.inr (.inl h))
  · exact .inr (.inr (.inr (.inr h))))
theorem off_more {P X D : Addr} {o1 o2 : Obj} {tl l : List (Addr × Obj)} (h1 : @LT.lt Nat _ P X) (h2 : @LT.lt Nat _ P D) (h3 : ∀ p ∈ tl, P < p.1) (h4 : ∀ p ∈ l, p.1 ≠ P) : ∀ p ∈ (X, o1) :: (D, o2) :: (tl ++ l), p.1 ≠ P := fun p hp => by
  simp only [List.mem_cons, List.mem_append] at hp
  rcases hp with rfl | rfl | hp | hp
  · exact Ne.symm (Nat.ne_of_lt h1)
  · exact Ne.symm (Nat.ne_of_lt h2)
  · exact Ne.symm (Nat.ne_of_lt (h3 p hp))
  · exact h4 p hp
theorem News.two {h₀ h : Heap} {L : Addr} {x y q r : Addr × Obj} {tl tl2 l : List (Addr × Obj)} (N : News h₀ L h (x :: (tl2 ++ q :: r :: y :: (tl ++ l)))) : News h₀ L h (x :: y :: (tl2 ++ tl)) := fun p hp => N p (by
  simp only [List.mem_cons, List.mem_append] at hp ⊢
  rcases hp with h | h | h | h
  · exact .inl h
  · exact .inr (.inr (.inr (.inr (.inl h))))
  · exact .inr (.inl h)
  · exact .inr (.inr (.inr (.inr (.inr (.inl h))))))
theorem pts_rev {led : List (Addr × Obj)} {a b c : Value} {p q r : Pt} (h : Pts led [a, b, c] [p, q, r]) : Pts led [c, b, a] [r, q, p] := by
  cases h with
  | cons m0 h => cases h with
    | cons m1 h => cases h with
      | cons m2 h => exact .cons m2 (.cons m1 (.cons m0 .nil))
theorem pts_part0 {led : List (Addr × Obj)} {a b c d e f : Value} {p q r s t u : Pt} (h : Pts led [a, b, c] [p, q, r]) (h' : Pts led [d, e, f] [s, t, u]) : Pts led [a, b, e, d] [p, q, t, s] := by
  cases h with
  | cons m0 h => cases h with
    | cons m1 h => cases h' with
      | cons n0 h' => cases h' with
        | cons n1 _ => exact .cons m0 (.cons m1 (.cons n1 (.cons n0 .nil)))
theorem pts_part1 {led : List (Addr × Obj)} {a b c d e f : Value} {p q r s t u : Pt} (h : Pts led [a, b, c] [p, q, r]) (h' : Pts led [d, e, f] [s, t, u]) : Pts led [b, c, f, e] [q, r, u, t] := by
  cases h with
  | cons m0 h => cases h with
    | cons m1 h => cases h with
      | cons m2 h => cases h' with
        | cons n0 h' => cases h' with
          | cons n1 h' => cases h' with
            | cons n2 _ => exact .cons m1 (.cons m2 (.cons n2 (.cons n1 .nil)))
theorem pts_mid {led : List (Addr × Obj)} {a b c : Addr} {p q r : Pt} (h : Pts led [.ref a, .ref b, .ref c] [p, q, r]) : ∃ t u, (b, ({ cls := .type "tuple", data := .seq #[.int q.1 t, .int q.2 u] } : Obj)) ∈ led := by
  cases h with
  | cons m0 h => cases h with
    | cons m1 h => exact ⟨_, _, m1⟩
theorem Near.nil : Near [] := fun _ h => nomatch h
theorem Near.mk {x y : Int} {ps : List Pt} (h1 : -100 ≤ x ∧ x ≤ 100) (h2 : -100 ≤ y ∧ y ≤ 100) (h : Near ps) : Near ((x, y) :: ps) := fun p hp => by
  rcases List.mem_cons.mp hp with rfl | hp
  · exact ⟨h1.1, h1.2, h2.1, h2.2⟩
  · exact h p hp
theorem News.skip3 {h₀ h : Heap} {L : Addr} {x a b : Addr × Obj} {R : List (Addr × Obj)} (N : News h₀ L h (x :: a :: b :: R)) : News h₀ L h (x :: a :: R) := fun p hp => N p (by
  simp only [List.mem_cons] at hp ⊢
  rcases hp with h | h | h
  · exact .inl h
  · exact .inr (.inl h)
  · exact .inr (.inr (.inr h)))
end Mine
namespace Mine
open PySem PySem.Spec PySem.Calls PyProof.Rows PyProof.Rows.LCg
section
variable {prog : Program} {w : World} {A : Around} {E : Value → Shared → Prop} {s : Shared} {h₀ : Heap} {L : Addr} {m : Str → Option Value} {env : Env} {led : List (Addr × Obj)}
theorem ints_take {ys : List Value} {zs : List Int} {i : Nat} {z : Int} {t : Tok} (h : Ints ys (zs.take i)) (hz : zs[i]? = some z) : Ints (ys ++ [.int z t]) (zs.take (i + 1)) := by
  rw [List.take_add_one, hz]
  exact h.snoc
/-- a comprehension over a list whose elements are ints and that makes nothing that stays -/
theorem IterA1.listInts {elt : Expr} {x : Str} {scope : Scope} {cl : List (Str × Addr)} {y : Str} {Q : Flow → Shared → Prop} {ax : Addr} {its : Array Value} {k : Nat} (hh : A.handled = none) (F : Fr h₀ L s.heap m) (N : News h₀ L s.heap led) (hm : (ax, ({ cls := .type "list", data := .seq its k } : Obj)) ∈ led) (hsz : its.size ≤ sizeLine)
    (zs : List Int) (hz : zs.length = its.size)
    (turn : ∀ i v z own C oC m₂ h tk (E' : Value → Shared → Prop), i < its.size → its[i]? = some v → zs[i]? = some z → (C, oC) ∈ own → NsObj oC m₂ → m₂ x = some v → Fr h₀ L h m → News h₀ L h (own ++ led) →
      wpAny (model prog w) A (eval elt (compEnvC scope cl C env)) (CompOut h₀ L m { s with heap := h, toks := tk } own led (fun y led₂ => led₂ = led ∧ ∃ t, y = .int z t)) E' { s with heap := h, toks := tk })
    (fin : ∀ D h tk ys, Fr h₀ L h (fun z => if z = y then some (.ref D) else m z) → News h₀ L h ((D, lst ys) :: led) → (∀ p ∈ led, p.1 < D) → Ints ys zs → Q .next { s with heap := h, toks := tk }) :
    IterA1 prog w A E h₀ L m env elt x scope cl y Q (.ref ax) s := by
  refine IterA1.list hh F N hm hsz (fun i ys led₁ => led₁ = led ∧ Ints ys (zs.take i)) ⟨rfl, .nil⟩ ?_ ?_
  · rintro i v ys led₁ own C oC m₂ h tk E' hi hv ⟨rfl, hJ⟩ hC hns hx F1 N1
    have hzi : zs[i]? = some (zs[i]'(by omega)) := List.getElem?_eq_getElem _
    refine wpAny_mono (turn i v _ own C oC m₂ h tk E' hi hv hzi hC hns hx F1 N1) (fun u s₂ q => ?_) fun _ _ e => e
    obtain ⟨h', tk', led₂, e, F2, N2, off, rfl, t, rfl⟩ := q
    exact ⟨h', tk', led₂, e, F2, N2, off, rfl, ints_take hJ hzi⟩
  · rintro D h tk ys led₁ F1 N1 hD hlt hlen ⟨rfl, hJ⟩
    rw [List.take_of_length_le (by omega)] at hJ
    exact fin D h tk ys F1 N1 hlt hJ
theorem IterA2.zipInts {elt : Expr} {x x₂ : Str} {scope : Scope} {cl : List (Str × Addr)} {y : Str} {Q : Flow → Shared → Prop} {l1 l2 : Addr} {xs ys : Array Value} {k1 k2 : Nat} (hh : A.handled = none) (F : Fr h₀ L s.heap m) (N : News h₀ L s.heap led)
    (hm1 : (l1, ({ cls := .type "list", data := .seq xs k1 } : Obj)) ∈ led) (hm2 : (l2, ({ cls := .type "list", data := .seq ys k2 } : Obj)) ∈ led) (hsz : xs.size ≤ sizeLine)
    (zs : List Int) (hz : zs.length = min xs.size ys.size)
    (turn : ∀ i v v₂ z own C oC m₂ h tk (E' : Value → Shared → Prop), i < min xs.size ys.size → xs[i]? = some v → ys[i]? = some v₂ → zs[i]? = some z → (C, oC) ∈ own → NsObj oC m₂ → m₂ x = some v → m₂ x₂ = some v₂ → Fr h₀ L h m → News h₀ L h (own ++ led) →
      wpAny (model prog w) A (eval elt (compEnvC scope cl C env)) (CompOut h₀ L m { s with heap := h, toks := tk } own led (fun y led₂ => led₂ = led ∧ ∃ t, y = .int z t)) E' { s with heap := h, toks := tk })
    (fin : ∀ D h tk ys, Fr h₀ L h (fun z => if z = y then some (.ref D) else m z) → News h₀ L h ((D, lst ys) :: led) → (∀ p ∈ led, p.1 < D) → Ints ys zs → Q .next { s with heap := h, toks := tk }) :
    wpAny (model prog w) A (call (.type "zip") [.ref l1, .ref l2]) (IterA2 prog w A E h₀ L m env elt x x₂ scope cl y Q) E s := by
  refine IterA2.zip hh F N hm1 hm2 hsz (fun i ys led₁ => led₁ = led ∧ Ints ys (zs.take i)) ⟨rfl, .nil⟩ ?_ ?_
  · rintro i v v₂ ws led₁ own C oC m₂ h tk E' hi hv hv₂ ⟨rfl, hJ⟩ hC hns hx hx2 F1 N1
    have hzi : zs[i]? = some (zs[i]'(by omega)) := List.getElem?_eq_getElem _
    refine wpAny_mono (turn i v v₂ _ own C oC m₂ h tk E' hi hv hv₂ hzi hC hns hx hx2 F1 N1) (fun u s₂ q => ?_) fun _ _ e => e
    obtain ⟨h', tk', led₂, e, F2, N2, off, rfl, t, rfl⟩ := q
    exact ⟨h', tk', led₂, e, F2, N2, off, rfl, ints_take hJ hzi⟩
  · rintro D h tk ws led₁ F1 N1 hD hlt hlen ⟨rfl, hJ⟩
    rw [List.take_of_length_le (by omega)] at hJ
    exact fin D h tk ws F1 N1 hlt hJ
theorem ints_two {ys : List Value} {a b : Int} (h : Ints ys [a, b]) : ∃ t u, ys = [.int a t, .int b u] := by
  cases h with
  | cons h => cases h with
    | cons h => cases h; exact ⟨_, _, rfl⟩
end
section
variable {prog : Program} {w : World} {A : Around} {E : Value → Shared → Prop} {s : Shared} {h₀ : Heap} {L : Addr} {m : Str → Option Value} {env : Env}
/-- the end of a turn that draws -/
def DrawnOut (h₀ : Heap) (L : Addr) (m : Str → Option Value) (s₁ : Shared) (P Y : Addr) (n : Nat) (f : Int → Int) (z : Int) (base : List (Addr × Obj)) (v : Value) (s' : Shared) : Prop :=
  ∃ X d u1 u2 tJ kJ h' tk', v = .ref X ∧ s' = { s₁ with heap := h', toks := tk' } ∧ d < 4 ∧ PySem.W.AllLt X ((P, ({ cls := .type "list", data := .seq (List.toArray [.ref Y, .int ((n + 1 : Nat) : Int) tJ]) kJ } : Obj)) :: base) ∧ Fr h₀ L h' m ∧
        News h₀ L h' ((X, { cls := .type "tuple", data := .seq #[.int z u1, .int (f (d : Nat)) u2] }) :: (P, { cls := .type "list", data := .seq (List.toArray [.ref Y, .int ((n + 1 : Nat) : Int) tJ]) kJ }) :: base)
/-- a comprehension over three written numbers whose element draws -/
theorem IterA1.drawn {elt : Expr} {x : Str} {scope : Scope} {cl : List (Str × Addr)} {y : Str} {Q : Flow → Shared → Prop} {ax P Y : Addr} {x0 x1 x2 : Int} {t0 t1 t2 tB : Tok} {k kB b0 : Nat} {rest : List (Addr × Obj)} (f : Int → Int) (hh : A.handled = none) (F : Fr h₀ L s.heap m)
    (N : News h₀ L s.heap ((P, { cls := .type "list", data := .seq (List.toArray [.ref Y, .int (b0 : Nat) tB]) kB }) :: rest)) (hm : (ax, ({ cls := .type "tuple", data := .seq #[.int x0 t0, .int x1 t1, .int x2 t2] k } : Obj)) ∈ rest) (hX : ax ≠ P) (hoff : PySem.W.OwnOff rest [P])
    (turn : ∀ i z tz own C oC m₂ h tk (E' : Value → Shared → Prop) tl tI kI, i < 3 → [x0, x1, x2][i]? = some z → (C, oC) ∈ own → NsObj oC m₂ → m₂ x = some (.int z tz) → PySem.W.OwnOff (own ++ (tl ++ rest)) [P] → Fr h₀ L h m → News h₀ L h ((P, { cls := .type "list", data := .seq (List.toArray [.ref Y, .int ((b0 + i : Nat) : Int) tI]) kI }) :: (own ++ (tl ++ rest))) →
      wpAny (model prog w) A (eval elt (compEnvC scope cl C env)) (DrawnOut h₀ L m s P Y (b0 + i) f z (own ++ (tl ++ rest))) E' { s with heap := h, toks := tk })
    (fin : ∀ D p0 p1 p2 (a0 a1 a2 : Nat) tl tI kI h tk, a0 < 4 → a1 < 4 → a2 < 4 → Fr h₀ L h (fun z => if z = y then some (.ref D) else m z) → News h₀ L h ((D, lst [.ref p0, .ref p1, .ref p2]) :: (tl ++ (P, { cls := .type "list", data := .seq (List.toArray [.ref Y, .int ((b0 + 3 : Nat) : Int) tI]) kI }) :: rest)) →
      Pts tl [.ref p0, .ref p1, .ref p2] [(x0, f a0), (x1, f a1), (x2, f a2)] → (∀ p ∈ tl, P < p.1) → P < D → (∀ p ∈ rest, p.1 < D) → Q .next { s with heap := h, toks := tk }) :
    IterA1 prog w A E h₀ L m env elt x scope cl y Q (.ref ax) s := by
  refine IterA1.tupleS hh F N (List.mem_cons_of_mem _ hm) (by show 3 ≤ sizeLine; rw [sizeLine_eq]; decide) (DrawnJ P Y b0 f [x0, x1, x2] rest) ⟨[], [], tB, kB, rfl, (fun _ h => nomatch h), rfl, (fun _ h => nomatch h), .nil⟩ ?_ ?_
  · intro i v ys led₁ own C oC m₂ h tk E' hi hv hJ9 hC hown hns hxx FV NV
    refine hid7 fun H9 hH9 => ?_
    obtain ⟨tl, ds, tI, kI, hdl, hd4, hled9, htl, hpt⟩ := hJ9
    obtain ⟨z, tz, hv9, hz⟩ := Ints.get (.cons (.cons (.cons .nil))) ((List.getElem?_toArray ..).symm.trans hv)
    refine hH9 ?_
    clear hH9 H9
    subst hled9 hv9
    refine wpAny_mono (turn i z tz own C oC m₂ h tk E' tl tI kI hi hz hC hns hxx (drawn_off hown hX htl hoff) FV (News.drop' NV drawn_sub)) (fun u s' q => ?_) fun _ _ e => e
    obtain ⟨X, d, u1, u2, tJ, kJ, h', tk', rfl, rfl, hd, hl, F', N'⟩ := q
    exact drawn_end F' N' hl hdl hd4 hd hz htl hpt rfl
  · rintro D h tk ys led₁ FV NV hD hlt hlen ⟨tl, ds, tI, kI, hdl, hd4, rfl, htl, hpt⟩
    obtain ⟨a0, a1, a2, rfl, e9⟩ := ptsOf_three (f := f) (x := x0) (y := x1) (z := x2) hdl
    rw [e9] at hpt
    obtain ⟨p0, p1, p2, rfl⟩ := hpt.three
    exact fin D p0 p1 p2 a0 a1 a2 tl tI kI h tk (hd4 _ (by simp)) (hd4 _ (by simp)) (hd4 _ (by simp)) FV NV hpt htl (hlt _ List.mem_cons_self) fun p hp => hlt p (List.mem_cons_of_mem _ hp)
end
theorem two_parts {h₀ h : Heap} {L : Addr} {led : List (Addr × Obj)} {v : Value} {z A0 A1 : Int} (f : Pt × Pt → Int) {i : Nat} {Y0 Y1 : Addr} {ws0 ws1 : List Value} {k0 k1 : Nat} {ps0 ps1 : List Pt} (N : News h₀ L h led) (hi : i < 2) (hv : [Value.ref Y0, .ref Y1][i]? = some v) (hz : [A0, A1][i]? = some z)
    (m0 : (Y0, ({ cls := .type "list", data := .seq ws0.toArray k0 } : Obj)) ∈ led) (m1 : (Y1, ({ cls := .type "list", data := .seq ws1.toArray k1 } : Obj)) ∈ led) (p0 : Pts led ws0 ps0) (p1 : Pts led ws1 ps1) (n0 : Near ps0) (n1 : Near ps1)
    (l0 : 1 ≤ ws0.length ∧ ws0.length ≤ 100) (l1 : 1 ≤ ws1.length ∧ ws1.length ≤ 100) (e0 : addUp f (cyc ps0) = A0) (e1 : addUp f (cyc ps1) = A1) :
    ∃ Y ws k ps, v = .ref Y ∧ News h₀ L h ((Y, { cls := .type "list", data := .seq (List.toArray ws) k }) :: led) ∧ Pts led ws ps ∧ (1 ≤ ws.length ∧ ws.length ≤ 100) ∧ Near ps ∧ addUp f (cyc ps) = z := by
  have hi' : i = 0 ∨ i = 1 := by omega
  rcases hi' with rfl | rfl
  · cases hv; cases hz
    exact ⟨Y0, ws0, k0, ps0, rfl, News.drop' N fun p hp => (List.mem_cons.mp hp).elim (fun e => e ▸ m0) id, p0, l0, n0, e0⟩
  · cases hv; cases hz
    exact ⟨Y1, ws1, k1, ps1, rfl, News.drop' N fun p hp => (List.mem_cons.mp hp).elim (fun e => e ▸ m1) id, p1, l1, n1, e1⟩
theorem near_c0 : -100 ≤ (0 : Int) ∧ (0 : Int) ≤ 100 := by decide
theorem near_c5 : -100 ≤ (5 : Int) ∧ (5 : Int) ≤ 100 := by decide
theorem near_up {n : Nat} (h : n < 4) : -100 ≤ 1 + (n : Int) ∧ 1 + (n : Int) ≤ 100 := by omega
theorem near_dn {n : Nat} (h : n < 4) : -100 ≤ 0 - (n : Int) ∧ 0 - (n : Int) ≤ 100 := by omega
end Mine
-- Cyc
set_option maxHeartbeats 4000000
set_option maxRecDepth 100000
namespace Mine
open PySem PySem.Spec PySem.Calls PyProof.Rows PyProof.Rows.LCg PySem.W
theorem pick_from (vs : List Value) (h : 1 ≤ vs.length) : (slicePick vs.toArray (some 1) none none).toList = vs.drop 1 := by
  have e : sliceBounds (some 1) none none vs.toArray.size = (((1 : Nat) : Int), ((vs.length : Nat) : Int), 1) := by
    simp only [sliceBounds, Option.getD_none, show (1 : Int) > 0 by decide, if_true, List.size_toArray, if_neg (show ¬ ((1 : Int) < 0) by decide)]
    congr 1
    omega
  rw [kmk_pick_nat _ e]
  show (vs.drop 1).take (vs.length - 1) = vs.drop 1
  exact List.take_of_length_le (by rw [List.length_drop]; exact Nat.le_refl _)
theorem pick_upto (vs : List Value) (h : 1 ≤ vs.length) : (slicePick vs.toArray none (some 1) none).toList = vs.take 1 := by
  have e : sliceBounds none (some 1) none vs.toArray.size = (((0 : Nat) : Int), ((1 : Nat) : Int), 1) := by
    simp only [sliceBounds, Option.getD_none, show (1 : Int) > 0 by decide, if_true, List.size_toArray, if_neg (show ¬ ((1 : Int) < 0) by decide)]
    congr 1
    congr 1
    omega
  rw [kmk_pick_nat _ e]
  rfl
section
variable {prog : Program} {w : World} {A : Around} {E : Value → Shared → Prop} {s : Shared} {h₀ : Heap} {L : Addr} {m : Str → Option Value} {led : List (Addr × Obj)} {value slice : PySem.Expr} {l : Addr} {vs : List Value} {c : Nat} {vl vu : Value} {Q : Value → Shared → Prop}
theorem from_at (F : Fr h₀ L s.heap m) (N : News h₀ L s.heap led) (hm : (l, ({ cls := .type "list", data := .seq vs.toArray c } : Obj)) ∈ led) (h1 : 1 ≤ vs.length) (hz : vs.length ≤ sizeLine) (pl : IsPart vl (some 1)) (pu : IsPart vu none)
    (h : ∀ D h', Fr h₀ L h' m → News h₀ L h' ((D, listOf (vs.drop 1).toArray 0) :: led) → (∀ p ∈ led, p.1 < D) → Q (.ref D) { s with heap := h' })
    (hs : subscripted slice false (.ref l) (.ref s.heap.objs.size) = operate [.ref s.heap.objs.size, .ref l] (getItem (.ref l) (.ref s.heap.objs.size))) (ht : ∀ r, letTemporaryGo value (.ref l) r = pure ()) :
    wpAny (model prog w) A (subscriptTail value slice (.ref l) (.ref s.heap.objs.size)) Q E { s with heap := s.heap.push { cls := .type "slice", data := .fields #[vl, vu, .none] } } :=
  kmk_slice_lit F N ⟨_, (N _ hm).1, rfl, _, rfl⟩ pl pu (pick_from vs h1) h hs ht (by rw [List.size_toArray]; exact hz)
theorem upto_at (F : Fr h₀ L s.heap m) (N : News h₀ L s.heap led) (hm : (l, ({ cls := .type "list", data := .seq vs.toArray c } : Obj)) ∈ led) (h1 : 1 ≤ vs.length) (hz : vs.length ≤ sizeLine) (pl : IsPart vl none) (pu : IsPart vu (some 1))
    (h : ∀ D h', Fr h₀ L h' m → News h₀ L h' ((D, listOf (vs.take 1).toArray 0) :: led) → (∀ p ∈ led, p.1 < D) → Q (.ref D) { s with heap := h' })
    (hs : subscripted slice false (.ref l) (.ref s.heap.objs.size) = operate [.ref s.heap.objs.size, .ref l] (getItem (.ref l) (.ref s.heap.objs.size))) (ht : ∀ r, letTemporaryGo value (.ref l) r = pure ()) :
    wpAny (model prog w) A (subscriptTail value slice (.ref l) (.ref s.heap.objs.size)) Q E { s with heap := s.heap.push { cls := .type "slice", data := .fields #[vl, vu, .none] } } :=
  kmk_slice_lit F N ⟨_, (N _ hm).1, rfl, _, rfl⟩ pl pu (pick_upto vs h1) h hs ht (by rw [List.size_toArray]; exact hz)
theorem cat_at {a b : Addr} {us ws : List Value} {c1 c2 : Nat} (F : Fr h₀ L s.heap m) (N : News h₀ L s.heap led) (ha : (a, ({ cls := .type "list", data := .seq us.toArray c1 } : Obj)) ∈ led) (hb : (b, ({ cls := .type "list", data := .seq ws.toArray c2 } : Obj)) ∈ led)
    (hz : us.length + ws.length ≤ sizeLine) (h : ∀ D h', Fr h₀ L h' m → News h₀ L h' ((D, listOf (us ++ ws).toArray 0) :: led) → (∀ p ∈ led, p.1 < D) → Q (.ref D) { s with heap := h' }) :
    wpAny (model prog w) A (binaryOp .Add (.ref a) (.ref b)) Q E s :=
  kmk_add_lit F N ⟨_, (N _ ha).1, rfl, _, rfl⟩ ⟨_, (N _ hb).1, rfl, _, rfl⟩ rfl h hz
end
theorem Pts.drop1 {led : List (Addr × Obj)} {cs : List Value} {ps : List Pt} (h : Pts led cs ps) : Pts led (cs.drop 1) (ps.drop 1) := by
  cases h with
  | nil => exact .nil
  | cons _ h => exact h
theorem Pts.take1 {led : List (Addr × Obj)} {cs : List Value} {ps : List Pt} (h : Pts led cs ps) : Pts led (cs.take 1) (ps.take 1) := by
  cases h with
  | nil => exact .nil
  | cons m _ => exact .cons m .nil
/-- the loop over neighbours that adds up -/
def AddJ (base : List (Addr × Obj)) (f : Pt × Pt → Int) (l : List (Pt × Pt)) (i : Nat) (m₁ : Str → Option Value) (led₁ : List (Addr × Obj)) : Prop := led₁ = base ∧ ∃ z t, m₁ (Str.ofString "total") = some (.int z t) ∧ z + addUp f (l.drop i) = addUp f l
theorem cyc_len {led : List (Addr × Obj)} {ws : List Value} {ps : List Pt} (h : Pts led ws ps) : (ps.zip (ps.drop 1 ++ ps.take 1)).length ≤ min ws.length (ws.drop 1 ++ ws.take 1).length := by
  rw [List.length_zip, List.length_append, List.length_append, List.length_drop, List.length_drop, List.length_take, List.length_take, h.length]
  exact Nat.le_refl _
end Mine
end
namespace Mine
open PySem PySem.W PyProof.Rows
set_option maxHeartbeats 8000000 in
open_top hd for PySem.Challenge.rw_xm0049_01
end Mine
open PySem PySem.W PyProof.Rows PySem.Calls PySem.Spec
set_option Elab.async false
set_option maxRecDepth 100000
set_option maxHeartbeats 2000000
namespace Mine

abbrev PR := PySem.Challenge.rw_xm0049_01.row.prog
abbrev TopP (mean : ExcName → Option Value) (mg mb : Str → Option Value) (h : Heap) : Prop :=
  Top Mine.hd.view_39 (looseW Mine.hd.view_39 [Str.ofString "BasicError"]) mean mg mb h

theorem room1 {a k m L : Nat} (h : a + m < L) (hk : 1 + k ≤ m) : a + 1 + k < L := by omega
theorem units1 {a k m L : Nat} (h : a + 8 * m < L) (hk : 3 + 8 * k ≤ 8 * m) : a + 3 + 8 * k < L := by omega
/-- what a call of the def at `fa` tells, from a ledger `led` and the arguments `vs` -/
def Tell (w : World) (mean : ExcName → Option Value) (mg mb : Str → Option Value) (fa : Addr) (need : Nat) (led : List (Addr × Obj)) (vs : List Value)
    (Post : List (Addr × Obj) → Value → Prop) : Prop :=
  ∀ (dp un : Nat) (gd : Option (List Code)) (cn : Str) (cs : Scope) (a : Addr) (ccd : Value) (cl : List (Str × Addr)) (outer : List Env) (A₀ : Around) (base h₀ : Heap) (L : Addr) (m : Str → Option Value) (s : Shared) (Q E : Value → Shared → Prop),
    Below A₀ base outer h₀ → Fr h₀ L s.heap m → (Mine.hd.heap_39 w.params).In h₀ → News h₀ L s.heap led → TopP mean mg mb h₀ → cs.kind = .function → dp + need < recursionLimit → un + 8 * need < cLine →
    (∀ r led' h' tk', Fr h₀ L h' m → News h₀ L h' led' → Post led' r → Q r { s with heap := h', toks := tk' }) →
    wpAny (model PR w) (ktrTop dp un gd cn cs L a ccd cl outer) (call (.ref fa) vs) Q E s
theorem Tell.use {w : World} {mean : ExcName → Option Value} {mg mb : Str → Option Value} {fa : Addr} {need : Nat} {led : List (Addr × Obj)} {vs : List Value} {Post : List (Addr × Obj) → Value → Prop}
    {dp un : Nat} {gd : Option (List Code)} {cn : Str} {cs : Scope} {a : Addr} {ccd : Value} {cl : List (Str × Addr)} {outer : List Env} {A₀ : Around} {base h₀ : Heap} {L : Addr} {m : Str → Option Value} {s : Shared} {Q E : Value → Shared → Prop}
    (N : News h₀ L s.heap led) (B : Below A₀ base outer h₀) (F : Fr h₀ L s.heap m) (X : (Mine.hd.heap_39 w.params).In h₀) (T : TopP mean mg mb h₀) (hk : cs.kind = .function) (C : Tell w mean mg mb fa need led vs Post) (hd : dp + need < recursionLimit) (hu : un + 8 * need < cLine)
    (ret : ∀ r led' h' tk', Fr h₀ L h' m → News h₀ L h' led' → Post led' r → Q r { s with heap := h', toks := tk' }) :
    wpAny (model PR w) (ktrTop dp un gd cn cs L a ccd cl outer) (call (.ref fa) vs) Q E s := C _ _ _ _ _ _ _ _ _ _ _ _ _ _ _ _ _ B F X N T hk hd hu ret
theorem News.drop {h₀ h : Heap} {L : Addr} {news news' : List (Addr × Obj)} (N : News h₀ L h news') (hs : ∀ p ∈ news, p ∈ news') : News h₀ L h news := fun p hp => N p (hs p hp)
def PostQ (led : List (Addr × Obj)) (q : Rat) (led' : List (Addr × Obj)) (r : Value) : Prop := ∃ x t1 t2, r = .ref x ∧ AllLt x led ∧ led' = (x, { cls := .type "tuple", data := .seq #[.int q.num t1, .int (q.den : Nat) t2] }) :: led
theorem PostQ.mk {led : List (Addr × Obj)} {q : Rat} {x : Addr} {n d : Int} {t1 t2 : Tok} (hl : AllLt x led) (hn : n = q.num) (hd : d = (q.den : Nat)) :
    PostQ led q ((x, { cls := .type "tuple", data := .seq #[.int n t1, .int d t2] }) :: led) (.ref x) := by
  subst hn hd
  exact ⟨x, t1, t2, rfl, hl, rfl⟩
section
variable {w : World} {mean : ExcName → Option Value} {mg mb : Str → Option Value} {fa : Addr} {need : Nat} {led : List (Addr × Obj)} {vs : List Value} {Post : List (Addr × Obj) → Value → Prop}
  {dp un : Nat} {gd : Option (List Code)} {cn : Str} {cs : Scope} {a : Addr} {ccd : Value} {cl : List (Str × Addr)} {outer : List Env} {A₀ : Around} {base h₀ : Heap} {L : Addr} {m : Str → Option Value} {s : Shared} {Q E : Value → Shared → Prop}
theorem Tell.go (N : News h₀ L s.heap led := by k_asm) (B : Below A₀ base outer h₀ := by k_asm) (F : Fr h₀ L s.heap m := by k_asm) (X : (Mine.hd.heap_39 w.params).In h₀ := by k_asm) (T : TopP mean mg mb h₀ := by k_asm) (hk : cs.kind = .function := by first | exact rfl | assumption)
    (C : Tell w mean mg mb fa need led vs Post) (ret : ∀ r led' h' tk', Fr h₀ L h' m → News h₀ L h' led' → Post led' r → Q r { s with heap := h', toks := tk' })
    (hd : dp + need < recursionLimit := by first | decide | exact room1 (by assumption) (by decide) | ktr_room) (hu : un + 8 * need < cLine := by first | decide | exact units1 (by assumption) (by decide) | ktr_units) :
    wpAny (model PR w) (ktrTop dp un gd cn cs L a ccd cl outer) (call (.ref fa) vs) Q E s := C _ _ _ _ _ _ _ _ _ _ _ _ _ _ _ _ _ B F X N T hk hd hu ret
/-- the call gives an int and leaves the ledger as it was -/
def PostI (led : List (Addr × Obj)) (z : Int) (led' : List (Addr × Obj)) (r : Value) : Prop := led' = led ∧ ∃ t, r = .int z t
/-- the call gives a new tuple of two ints -/
def PostN (led : List (Addr × Obj)) (y z : Int) (led' : List (Addr × Obj)) (r : Value) : Prop := ∃ x t1 t2, r = .ref x ∧ AllLt x led ∧ led' = (x, { cls := .type "tuple", data := .seq #[.int y t1, .int z t2] }) :: led
theorem Tell.goI {z : Int} (N : News h₀ L s.heap led := by k_asm) (B : Below A₀ base outer h₀ := by k_asm) (F : Fr h₀ L s.heap m := by k_asm) (X : (Mine.hd.heap_39 w.params).In h₀ := by k_asm) (T : TopP mean mg mb h₀ := by k_asm) (hk : cs.kind = .function := by first | exact rfl | assumption)
    (C : Tell w mean mg mb fa need led vs (fun led' r => led' = led ∧ ∃ t, r = .int z t)) (ret : ∀ t h' tk', Fr h₀ L h' m → News h₀ L h' led → Q (.int z t) { s with heap := h', toks := tk' })
    (hd : dp + need < recursionLimit := by first | decide | exact room1 (by assumption) (by decide) | ktr_room) (hu : un + 8 * need < cLine := by first | decide | exact units1 (by assumption) (by decide) | ktr_units) :
    wpAny (model PR w) (ktrTop dp un gd cn cs L a ccd cl outer) (call (.ref fa) vs) Q E s := Tell.use N B F X T hk C hd hu fun r led' h' tk' F' N' P => by
  obtain ⟨rfl, t, rfl⟩ := P
  exact ret t h' tk' F' N'
theorem Tell.goN {y z : Int} (N : News h₀ L s.heap led := by k_asm) (B : Below A₀ base outer h₀ := by k_asm) (F : Fr h₀ L s.heap m := by k_asm) (X : (Mine.hd.heap_39 w.params).In h₀ := by k_asm) (T : TopP mean mg mb h₀ := by k_asm) (hk : cs.kind = .function := by first | exact rfl | assumption)
    (C : Tell w mean mg mb fa need led vs (fun led' r => ∃ x t1 t2, r = .ref x ∧ AllLt x led ∧ led' = (x, { cls := .type "tuple", data := .seq #[.int y t1, .int z t2] }) :: led))
    (ret : ∀ x t u h' tk', AllLt x led → Fr h₀ L h' m → News h₀ L h' ((x, { cls := .type "tuple", data := .seq #[.int y t, .int z u] }) :: led) → Q (.ref x) { s with heap := h', toks := tk' })
    (hd : dp + need < recursionLimit := by first | decide | exact room1 (by assumption) (by decide) | ktr_room) (hu : un + 8 * need < cLine := by first | decide | exact units1 (by assumption) (by decide) | ktr_units) :
    wpAny (model PR w) (ktrTop dp un gd cn cs L a ccd cl outer) (call (.ref fa) vs) Q E s := Tell.use N B F X T hk C hd hu fun r led' h' tk' F' N' P => by
  obtain ⟨x, t, u, rfl, l, rfl⟩ := P
  exact ret x t u h' tk' l F' N'
theorem Tell.goQ {q : Rat} (N : News h₀ L s.heap led := by k_asm) (B : Below A₀ base outer h₀ := by k_asm) (F : Fr h₀ L s.heap m := by k_asm) (X : (Mine.hd.heap_39 w.params).In h₀ := by k_asm) (T : TopP mean mg mb h₀ := by k_asm) (hk : cs.kind = .function := by first | exact rfl | assumption)
    (C : Tell w mean mg mb fa need led vs (PostQ led q))
    (ret : ∀ x t u h' tk', AllLt x led → Fr h₀ L h' m → News h₀ L h' ((x, { cls := .type "tuple", data := .seq #[.int q.num t, .int (q.den : Nat) u] }) :: led) → Q (.ref x) { s with heap := h', toks := tk' })
    (hd : dp + need < recursionLimit := by first | decide | exact room1 (by assumption) (by decide) | ktr_room) (hu : un + 8 * need < cLine := by first | decide | exact units1 (by assumption) (by decide) | ktr_units) :
    wpAny (model PR w) (ktrTop dp un gd cn cs L a ccd cl outer) (call (.ref fa) vs) Q E s := Tell.goN N B F X T hk C ret hd hu
theorem Tell.goF {P : Int → Prop} (N : News h₀ L s.heap led := by k_asm) (B : Below A₀ base outer h₀ := by k_asm) (F : Fr h₀ L s.heap m := by k_asm) (X : (Mine.hd.heap_39 w.params).In h₀ := by k_asm) (T : TopP mean mg mb h₀ := by k_asm) (hk : cs.kind = .function := by first | exact rfl | assumption)
    (C : Tell w mean mg mb fa need led vs (fun led' r => led' = led ∧ ∃ F u, r = .int F u ∧ P F))
    (ret : ∀ f t h' tk', P f → Fr h₀ L h' m → News h₀ L h' led → Q (.int f t) { s with heap := h', toks := tk' })
    (hd : dp + need < recursionLimit := by first | decide | exact room1 (by assumption) (by decide) | ktr_room) (hu : un + 8 * need < cLine := by first | decide | exact units1 (by assumption) (by decide) | ktr_units) :
    wpAny (model PR w) (ktrTop dp un gd cn cs L a ccd cl outer) (call (.ref fa) vs) Q E s := Tell.use N B F X T hk C hd hu fun r led' h' tk' F' N' P => by
  obtain ⟨rfl, f, t, rfl, hf⟩ := P
  exact ret f t h' tk' hf F' N'
theorem Tell.goO {o : Option Nat} (N : News h₀ L s.heap led := by k_asm) (B : Below A₀ base outer h₀ := by k_asm) (F : Fr h₀ L s.heap m := by k_asm) (X : (Mine.hd.heap_39 w.params).In h₀ := by k_asm) (T : TopP mean mg mb h₀ := by k_asm) (hk : cs.kind = .function := by first | exact rfl | assumption)
    (C : Tell w mean mg mb fa need led vs (fun led' v => led' = led ∧ match o with | some i => ∃ t, v = .int (i : Nat) t | none => v = .none))
    (one : ∀ i t h' tk', o = some i → Fr h₀ L h' m → News h₀ L h' led → Q (.int (i : Nat) t) { s with heap := h', toks := tk' }) (non : ∀ h' tk', o = none → Fr h₀ L h' m → News h₀ L h' led → Q .none { s with heap := h', toks := tk' })
    (hd : dp + need < recursionLimit := by first | decide | exact room1 (by assumption) (by decide) | ktr_room) (hu : un + 8 * need < cLine := by first | decide | exact units1 (by assumption) (by decide) | ktr_units) :
    wpAny (model PR w) (ktrTop dp un gd cn cs L a ccd cl outer) (call (.ref fa) vs) Q E s := Tell.use N B F X T hk C hd hu fun r led' h' tk' F' N' P => by
  obtain ⟨rfl, P⟩ := P
  cases ho : o with
  | none => rw [ho] at P; subst P; exact non h' tk' ho F' N'
  | some i => rw [ho] at P; obtain ⟨t, rfl⟩ := P; exact one i t h' tk' ho F' N'
end
section
variable {M : Model} {A : Around} {E : Value → Shared → Prop} {s : Shared} {Q : Value → Shared → Prop} {QF : Flow → Shared → Prop} {env : Env}
theorem stop_lc {e g sc pos} (h : False) : wpAny M A (eval (Expr.ListComp e g sc pos) env) Q E s := h.elim
theorem stop_alc {ts e g sc pos p} (h : False) : wpAny M A (exec (Stmt.Assign ts (Expr.ListComp e g sc pos) p) env) QF E s := h.elim
theorem stop_zip {vs} (h : False) : wpAny M A (call (Value.type "zip") vs) Q E s := h.elim
theorem stop_ref {f vs} (h : False) : wpAny M A (call (Value.ref f) vs) Q E s := h.elim
theorem for_shape {x p it b pos env} (h : wpAny M A (exec (Stmt.For (Expr.Name x p) it b [] pos) env) QF E s) : wpAny M A (exec (Stmt.For (Expr.Name x p) it b [] pos) env) QF E s := h
theorem fort_shape {es k p it b pos env} (h : wpAny M A (exec (Stmt.For (Expr.Tuple es k p) it b [] pos) env) QF E s) : wpAny M A (exec (Stmt.For (Expr.Tuple es k p) it b [] pos) env) QF E s := h
theorem item_shape {e e' l k u} (h : wpAny M A (subscriptTail e e' (Value.ref l) (Value.int k u)) Q E s) : wpAny M A (subscriptTail e e' (Value.ref l) (Value.int k u)) Q E s := h
theorem hide {G : Prop} (h : ∀ H : Prop, (G → H) → H) : G := h G id
end
theorem filled : PySem.Challenge.rw_xm0049_01 = PySem.Challenge.rw_xm0049_01 ∧ Mine.hd.heap_39 = Mine.hd.heap_39 := by
  w_top off
  k_fill
  exact ⟨rfl, rfl⟩
local macro_rules | `(tactic| k_mem) => `(tactic| first | exact List.mem_cons_self | (refine List.mem_cons_of_mem _ ?_; k_mem))
local macro_rules | `(tactic| walk_at "call type:list") => `(tactic| ((with_reducible show wpAny _ _ (call (Value.type "list") [Value.ref _]) _ _ _); k_dflt (refine list_copy_at (by k_asm) (by k_asm) (by k_mem) (by assumption) ?_); intro D' c' h' F' N' l1; (try k_lt l1)))
theorem t_gcd (w : World) (mean : ExcName → Option Value) (mg mb : Str → Option Value) (led : List (Addr × Obj)) (a b : Int) (ta tb : Tok) :
    Tell w mean mg mb 72 1 led [.int a ta, .int b tb] (fun led' r => led' = led ∧ ∃ t, r = .int (Int.gcd a b) t) := by
  intro dp un gd cn cs a₁ ccd cl outer A₀ base h₀ L m s Q E B F X N T hk hd hu hret
  refine wpAny_call ?_
  k_dflt (refine' code_def (binds := [(Str.ofString "one", .int a ta), (Str.ofString "other", .int b tb)]) ?k1 ?k2 ?k3 ?k4 ?k5 ?kA ?kF ?kK ?k6 ?k7 ?k8 ?k9 ?kB ?_ ?c2 ?c3 ?c4 ?c5; (case kA => exact rfl); (case kF => exact rfl); (case kK => first | exact rfl | assumption); (case k1 => k_asm); (case k2 => k_asm); (case k3 => k_asm); (case k4 => k_asm); (case k5 => k_asm); (case k6 => k_is); (case k7 => k_is); (case k8 => ktr_room); (case k9 => exact BindsTo.of_eq rfl); (case c5 => decide); (case kB => exact locs rfl); (case c2 => exact rfl); (case c3 => exact rfl); (case c4 => exact rfl); k_whole; intro g' L' h' FG' F' N' B' X' T'; (try dsimp only); (try k_fold))
  k_with "exec While Compare cons nil" => k_while (fun _ x y => 0 ≤ x ∧ 0 ≤ y ∧ Int.gcd x y = Int.gcd a b) (fun _ _ y => y.toNat) "one" "other"
  k_with "state" => first | exact gcd_start a b | exact gcd_turn (by assumption) (by assumption) (by assumption)
  k_with "measure" => exact gcd_less (by assumption)
  k_steps
  refine hret _ _ _ _ (by k_asm) (News.drop (by k_asm) (by kcj_all)) ⟨rfl, ktn_int (gcd_end (by assumption) (by assumption) (by assumption) (by assumption))⟩
theorem t_fraction (w : World) (mean : ExcName → Option Value) (mg mb : Str → Option Value) (led : List (Addr × Obj)) (a b : Int) (ta tb : Tok) (hb : b ≠ 0) (hbits : Builtin.Int.intBits b ≤ 8000) :
    Tell w mean mg mb 79 2 led [.int a ta, .int b tb] (PostQ led (Rat.divInt a b)) := by
  intro dp un gd cn cs a₁ ccd cl outer A₀ base h₀ L m s Q E B F X N T hk hd hu hret
  have hne := part_ne (a := a) hb
  have hl1 := log_gcd (a := a) hb hbits
  have hl2 := log_gcd_neg (a := a) hb hbits
  refine wpAny_call ?_
  k_dflt (refine' code_def (binds := [(Str.ofString "above", .int a ta), (Str.ofString "below", .int b tb)]) ?k1 ?k2 ?k3 ?k4 ?k5 ?kA ?kF ?kK ?k6 ?k7 ?k8 ?k9 ?kB ?_ ?c2 ?c3 ?c4 ?c5; (case kA => exact rfl); (case kF => exact rfl); (case kK => first | exact rfl | assumption); (case k1 => k_asm); (case k2 => k_asm); (case k3 => k_asm); (case k4 => k_asm); (case k5 => k_asm); (case k6 => k_is); (case k7 => k_is); (case k8 => ktr_room); (case k9 => exact BindsTo.of_eq rfl); (case c5 => decide); (case kB => exact locs rfl); (case c2 => exact rfl); (case c3 => exact rfl); (case c4 => exact rfl); k_whole; intro g' L' h' FG' F' N' B' X' T'; (try dsimp only); (try k_fold))
  repeat' ((fail_if_success (first | (with_reducible refine stop_ref ?_) | (with_reducible refine stop_lc ?_) | (with_reducible refine stop_alc ?_) | (with_reducible refine stop_zip ?_))); first | (k_unfold; (try dsimp only)) | ((with_reducible refine floordiv_int ?kbe ?_ (Or.inl (PyProof.noPylong_of_log2 ?kbp))); (case kbe => first | assumption | omega); (case kbp => assumption)) | walk1 | (dsimp only; walk1) | (leave1; (try dsimp only)) | fail "no step")
  refine Tell.goI (C := t_gcd _ _ _ _ _ _ _ _ _) (ret := ?_)
  intro t9 h9 tk9 F9 N9
  (try dsimp only)
  (try k_fold)
  repeat' ((fail_if_success (first | (with_reducible refine stop_ref ?_) | (with_reducible refine stop_lc ?_) | (with_reducible refine stop_alc ?_) | (with_reducible refine stop_zip ?_))); first | (k_unfold; (try dsimp only)) | ((with_reducible refine floordiv_int ?kbe ?_ (Or.inl (PyProof.noPylong_of_log2 ?kbp))); (case kbe => first | assumption | omega); (case kbp => assumption)) | walk1 | (dsimp only; walk1) | (leave1; (try dsimp only)) | fail "no step")
  · exact hret _ _ _ _ (by k_asm) (by k_asm) (PostQ.mk (by ktn_lt) (fr_num_pos (by assumption)) (fr_den_pos (by assumption)))
  · exact hret _ _ _ _ (by k_asm) (by k_asm) (PostQ.mk (by ktn_lt) (fr_num_neg (by omega)) (fr_den_neg (by omega)))
theorem t_times (w : World) (mean : ExcName → Option Value) (mg mb : Str → Option Value) (led : List (Addr × Obj)) (p q : Rat) (x y : Addr) (t1 t2 t3 t4 : Tok) (j k : Nat)
    (mx : (x, ({ cls := .type "tuple", data := .seq #[.int p.num t1, .int (p.den : Nat) t2] } : Obj)) ∈ led) (my : (y, ({ cls := .type "tuple", data := .seq #[.int q.num t3, .int (q.den : Nat) t4] } : Obj)) ∈ led) (hp : Qb j p) (hq : Qb k q) (hjk : j + k ≤ 8000) :
    Tell w mean mg mb 93 3 led [.ref x, .ref y] (PostQ led (p * q)) := by
  intro dp un gd cn cs a₁ ccd cl outer A₀ base h₀ L m s Q E B F X N T hk hd hu hret
  have hm1 := mulOk_of hp.1 hq.1 (by omega)
  have hm2 := mulOk_of hp.2 hq.2 (by omega)
  have hne : (p.den : Int) * q.den ≠ 0 := Int.mul_ne_zero (den_ne p) (den_ne q)
  have hbt := Nat.le_trans (intBits_mul_le hp.2 hq.2) hjk
  refine wpAny_call ?_
  k_dflt (refine' code_def (binds := [(Str.ofString "one", .ref x), (Str.ofString "other", .ref y)]) ?k1 ?k2 ?k3 ?k4 ?k5 ?kA ?kF ?kK ?k6 ?k7 ?k8 ?k9 ?kB ?_ ?c2 ?c3 ?c4 ?c5; (case kA => exact rfl); (case kF => exact rfl); (case kK => first | exact rfl | assumption); (case k1 => k_asm); (case k2 => k_asm); (case k3 => k_asm); (case k4 => k_asm); (case k5 => k_asm); (case k6 => k_is); (case k7 => k_is); (case k8 => ktr_room); (case k9 => exact BindsTo.of_eq rfl); (case c5 => decide); (case kB => exact locs rfl); (case c2 => exact rfl); (case c3 => exact rfl); (case c4 => exact rfl); k_whole; intro g' L' h' FG' F' N' B' X' T'; (try dsimp only); (try k_fold))
  repeat' ((fail_if_success (first | (with_reducible refine stop_ref ?_) | (with_reducible refine stop_lc ?_) | (with_reducible refine stop_alc ?_) | (with_reducible refine stop_zip ?_))); first | (k_unfold; (try dsimp only)) | ((with_reducible refine floordiv_int ?kbe ?_ (Or.inl (PyProof.noPylong_of_log2 ?kbp))); (case kbe => first | assumption | omega); (case kbp => assumption)) | walk1 | (dsimp only; walk1) | (leave1; (try dsimp only)) | fail "no step")
  refine Tell.goQ (C := t_fraction _ _ _ _ _ _ _ _ _ (by assumption) (by assumption)) (ret := ?_)
  intro x9 t9 u9 h9 tk9 l9 F9 N9
  (try dsimp only)
  (try k_fold)
  repeat' ((fail_if_success (first | (with_reducible refine stop_ref ?_) | (with_reducible refine stop_lc ?_) | (with_reducible refine stop_alc ?_) | (with_reducible refine stop_zip ?_))); first | (k_unfold; (try dsimp only)) | ((with_reducible refine floordiv_int ?kbe ?_ (Or.inl (PyProof.noPylong_of_log2 ?kbp))); (case kbe => first | assumption | omega); (case kbp => assumption)) | walk1 | (dsimp only; walk1) | (leave1; (try dsimp only)) | fail "no step")
  exact hret _ _ _ _ (by k_asm) (by k_asm) (PostQ.mk (by ktn_lt) (by rw [times_is]) (by rw [times_is]))
theorem t_less (w : World) (mean : ExcName → Option Value) (mg mb : Str → Option Value) (led : List (Addr × Obj)) (p q : Rat) (x y : Addr) (t1 t2 t3 t4 : Tok) (j k : Nat)
    (mx : (x, ({ cls := .type "tuple", data := .seq #[.int p.num t1, .int (p.den : Nat) t2] } : Obj)) ∈ led) (my : (y, ({ cls := .type "tuple", data := .seq #[.int q.num t3, .int (q.den : Nat) t4] } : Obj)) ∈ led) (hp : Qb j p) (hq : Qb k q) (hjk : j + k ≤ 8000) :
    Tell w mean mg mb 100 3 led [.ref x, .ref y] (PostQ led (p - q)) := by
  intro dp un gd cn cs a₁ ccd cl outer A₀ base h₀ L m s Q E B F X N T hk hd hu hret
  have hm1 := mulOk_of hp.1 hq.2 (by omega)
  have hm2 := mulOk_of hp.2 hq.2 (by omega)
  have hm3 := mulOk_of hq.1 hp.2 (by omega)
  have hne : (p.den : Int) * q.den ≠ 0 := Int.mul_ne_zero (den_ne p) (den_ne q)
  have hbt := Nat.le_trans (intBits_mul_le hp.2 hq.2) hjk
  refine wpAny_call ?_
  k_dflt (refine' code_def (binds := [(Str.ofString "one", .ref x), (Str.ofString "other", .ref y)]) ?k1 ?k2 ?k3 ?k4 ?k5 ?kA ?kF ?kK ?k6 ?k7 ?k8 ?k9 ?kB ?_ ?c2 ?c3 ?c4 ?c5; (case kA => exact rfl); (case kF => exact rfl); (case kK => first | exact rfl | assumption); (case k1 => k_asm); (case k2 => k_asm); (case k3 => k_asm); (case k4 => k_asm); (case k5 => k_asm); (case k6 => k_is); (case k7 => k_is); (case k8 => ktr_room); (case k9 => exact BindsTo.of_eq rfl); (case c5 => decide); (case kB => exact locs rfl); (case c2 => exact rfl); (case c3 => exact rfl); (case c4 => exact rfl); k_whole; intro g' L' h' FG' F' N' B' X' T'; (try dsimp only); (try k_fold))
  repeat' ((fail_if_success (first | (with_reducible refine stop_ref ?_) | (with_reducible refine stop_lc ?_) | (with_reducible refine stop_alc ?_) | (with_reducible refine stop_zip ?_))); first | (k_unfold; (try dsimp only)) | ((with_reducible refine floordiv_int ?kbe ?_ (Or.inl (PyProof.noPylong_of_log2 ?kbp))); (case kbe => first | assumption | omega); (case kbp => assumption)) | walk1 | (dsimp only; walk1) | (leave1; (try dsimp only)) | fail "no step")
  refine Tell.goQ (C := t_fraction _ _ _ _ _ _ _ _ _ (by assumption) (by assumption)) (ret := ?_)
  intro x9 t9 u9 h9 tk9 l9 F9 N9
  (try dsimp only)
  (try k_fold)
  repeat' ((fail_if_success (first | (with_reducible refine stop_ref ?_) | (with_reducible refine stop_lc ?_) | (with_reducible refine stop_alc ?_) | (with_reducible refine stop_zip ?_))); first | (k_unfold; (try dsimp only)) | ((with_reducible refine floordiv_int ?kbe ?_ (Or.inl (PyProof.noPylong_of_log2 ?kbp))); (case kbe => first | assumption | omega); (case kbp => assumption)) | walk1 | (dsimp only; walk1) | (leave1; (try dsimp only)) | fail "no step")
  exact hret _ _ _ _ (by k_asm) (by k_asm) (PostQ.mk (by ktn_lt) (by rw [less_is]) (by rw [less_is]))
theorem t_by (w : World) (mean : ExcName → Option Value) (mg mb : Str → Option Value) (led : List (Addr × Obj)) (p q : Rat) (x y : Addr) (t1 t2 t3 t4 : Tok) (j k : Nat)
    (mx : (x, ({ cls := .type "tuple", data := .seq #[.int p.num t1, .int (p.den : Nat) t2] } : Obj)) ∈ led) (my : (y, ({ cls := .type "tuple", data := .seq #[.int q.num t3, .int (q.den : Nat) t4] } : Obj)) ∈ led) (hp : Qb j p) (hq : Qb k q) (hjk : j + k ≤ 8000) (hz : q ≠ 0) :
    Tell w mean mg mb 107 3 led [.ref x, .ref y] (PostQ led (p / q)) := by
  intro dp un gd cn cs a₁ ccd cl outer A₀ base h₀ L m s Q E B F X N T hk hd hu hret
  have hm1 := mulOk_of hp.1 hq.2 (by omega)
  have hm2 := mulOk_of hp.2 hq.1 (by omega)
  have hne : (p.den : Int) * q.num ≠ 0 := Int.mul_ne_zero (den_ne p) (num_ne hz)
  have hbt := Nat.le_trans (intBits_mul_le hp.2 hq.1) hjk
  refine wpAny_call ?_
  k_dflt (refine' code_def (binds := [(Str.ofString "one", .ref x), (Str.ofString "other", .ref y)]) ?k1 ?k2 ?k3 ?k4 ?k5 ?kA ?kF ?kK ?k6 ?k7 ?k8 ?k9 ?kB ?_ ?c2 ?c3 ?c4 ?c5; (case kA => exact rfl); (case kF => exact rfl); (case kK => first | exact rfl | assumption); (case k1 => k_asm); (case k2 => k_asm); (case k3 => k_asm); (case k4 => k_asm); (case k5 => k_asm); (case k6 => k_is); (case k7 => k_is); (case k8 => ktr_room); (case k9 => exact BindsTo.of_eq rfl); (case c5 => decide); (case kB => exact locs rfl); (case c2 => exact rfl); (case c3 => exact rfl); (case c4 => exact rfl); k_whole; intro g' L' h' FG' F' N' B' X' T'; (try dsimp only); (try k_fold))
  repeat' ((fail_if_success (first | (with_reducible refine stop_ref ?_) | (with_reducible refine stop_lc ?_) | (with_reducible refine stop_alc ?_) | (with_reducible refine stop_zip ?_))); first | (k_unfold; (try dsimp only)) | ((with_reducible refine floordiv_int ?kbe ?_ (Or.inl (PyProof.noPylong_of_log2 ?kbp))); (case kbe => first | assumption | omega); (case kbp => assumption)) | walk1 | (dsimp only; walk1) | (leave1; (try dsimp only)) | fail "no step")
  refine Tell.goQ (C := t_fraction _ _ _ _ _ _ _ _ _ (by assumption) (by assumption)) (ret := ?_)
  intro x9 t9 u9 h9 tk9 l9 F9 N9
  (try dsimp only)
  (try k_fold)
  repeat' ((fail_if_success (first | (with_reducible refine stop_ref ?_) | (with_reducible refine stop_lc ?_) | (with_reducible refine stop_alc ?_) | (with_reducible refine stop_zip ?_))); first | (k_unfold; (try dsimp only)) | ((with_reducible refine floordiv_int ?kbe ?_ (Or.inl (PyProof.noPylong_of_log2 ?kbp))); (case kbe => first | assumption | omega); (case kbp => assumption)) | walk1 | (dsimp only; walk1) | (leave1; (try dsimp only)) | fail "no step")
  exact hret _ _ _ _ (by k_asm) (by k_asm) (PostQ.mk (by ktn_lt) (by rw [by_is]) (by rw [by_is]))
theorem t_cleared (w : World) (mean : ExcName → Option Value) (mg mb : Str → Option Value) (led : List (Addr × Obj)) (ps qs : List Rat) (f : Rat) (r b y : Addr) (kr kb : Nat) (xs ys : List Value) (tf uf : Tok) (k : Nat)
    (mr : (r, ({ cls := .type "list", data := .seq (List.toArray xs) kr } : Obj)) ∈ led) (mb' : (b, ({ cls := .type "list", data := .seq (List.toArray ys) kb } : Obj)) ∈ led) (mf : (y, ({ cls := .type "tuple", data := .seq #[.int f.num tf, .int (f.den : Nat) uf] } : Obj)) ∈ led) (cx : Cells led xs ps) (cy : Cells led ys qs) (hp : Qbs k ps) (hq : Qbs k qs) (hf : Qb k f) (hk3 : 3 * k ≤ 7000) (hsz : xs.length ≤ sizeLine) :
    Tell w mean mg mb 126 5 led [.ref r, .ref b, .ref y] (fun led' v => ∃ tl, led' = tl ++ led ∧ (∀ p ∈ tl, ∀ q ∈ led, q.1 < p.1) ∧ RowIn tl v (List.zipWith (fun p q => p - f * q) ps qs)) := by
  intro dp un gd cn cs a₁ ccd cl outer A₀ base h₀ L m s Q E B F X N T hk hd hu hret
  refine wpAny_call ?_
  k_dflt (refine' code_defC (binds := [(Str.ofString "row", .ref r), (Str.ofString "by", .ref b), (Str.ofString "factor", .ref y)]) ?k1 ?k2 ?k3 ?k4 ?k5 ?kA ?kF ?kK ?k6 ?k7 ?k8 ?k9 ?kB ?kD ?_ ?c2 ?c3 ?c4; (case kA => exact rfl); (case kF => exact rfl); (case kK => first | exact rfl | assumption); (case k1 => k_asm); (case k2 => k_asm); (case k3 => k_asm); (case k4 => k_asm); (case k5 => k_asm); (case k6 => k_is); (case k7 => k_is); (case k8 => ktr_room); (case k9 => exact BindsTo.of_eq rfl); (case kB => exact rfl); (case kD => decide +kernel); (case c2 => exact rfl); (case c3 => exact rfl); (case c4 => exact rfl); k_whole; intro g' L' h' tk' cells' FG' F' N' Y' B' X' T' l1; (try k_lt l1); k_cells Y'; (try simp only [List.cons_append, List.nil_append] at N'); (try dsimp only); (try k_fold))
  rename_i oc dc
  repeat' ((fail_if_success (first | (with_reducible refine stop_ref ?_) | (with_reducible refine stop_lc ?_) | (with_reducible refine stop_alc ?_) | (with_reducible refine stop_zip ?_) | (with_reducible show IterE1 _ _ _ _ _ _ _ _ _ _ _ _ _ _ _) | (with_reducible show IterA1 _ _ _ _ _ _ _ _ _ _ _ _ _ _ _ _) | (with_reducible show CompOut _ _ _ _ _ _ _ _ _) | (with_reducible show IterF _ _ _ _ _ _ _ _ _ _ _) | (with_reducible show ForOut _ _ _ _ _ _ _ _ _))); first | (k_unfold; (try dsimp only)) | ((with_reducible refine item_shape ?_); k_dflt (refine item_at (by k_asm) (by k_mem) (by assumption) (by first | (with_reducible exact Int.natCast_nonneg _) | (with_reducible assumption) | decide | omega) (by first | (with_reducible assumption) | decide | omega) ?_)) | ((with_reducible refine for_shape ?_); k_dflt (refine ForF (by k_asm) (by rfl) (by rfl) (by with_unfolding_all passes_own) ?_)) | ((with_reducible show wpAny _ _ (call (Value.builtin "len") [Value.ref _]) _ _ _); k_dflt (refine kst_len (by k_asm) (by k_mem) (by first | assumption | rfl) (by omega) ?_)) | ((with_reducible refine floordiv_int ?kbe ?_ (Or.inl (PyProof.noPylong_of_log2 ?kbp))); (case kbe => first | assumption | omega); (case kbp => assumption)) | walk1 | (dsimp only; walk1) | (leave1; (try dsimp only)) | fail "no step")
  k_dflt (refine ListComp2E (by k_asm) (by with_unfolding_all rfl) (by decide) (by rfl) (by decide) (by rfl) (by rfl) (by decide) ?_)
  repeat' ((fail_if_success (first | (with_reducible refine stop_ref ?_) | (with_reducible refine stop_lc ?_) | (with_reducible refine stop_alc ?_) | (with_reducible refine stop_zip ?_) | (with_reducible show IterE1 _ _ _ _ _ _ _ _ _ _ _ _ _ _ _) | (with_reducible show IterA1 _ _ _ _ _ _ _ _ _ _ _ _ _ _ _ _) | (with_reducible show CompOut _ _ _ _ _ _ _ _ _) | (with_reducible show IterF _ _ _ _ _ _ _ _ _ _ _) | (with_reducible show ForOut _ _ _ _ _ _ _ _ _))); first | (k_unfold; (try dsimp only)) | ((with_reducible refine item_shape ?_); k_dflt (refine item_at (by k_asm) (by k_mem) (by assumption) (by first | (with_reducible exact Int.natCast_nonneg _) | (with_reducible assumption) | decide | omega) (by first | (with_reducible assumption) | decide | omega) ?_)) | ((with_reducible refine for_shape ?_); k_dflt (refine ForF (by k_asm) (by rfl) (by rfl) (by with_unfolding_all passes_own) ?_)) | ((with_reducible show wpAny _ _ (call (Value.builtin "len") [Value.ref _]) _ _ _); k_dflt (refine kst_len (by k_asm) (by k_mem) (by first | assumption | rfl) (by omega) ?_)) | ((with_reducible refine floordiv_int ?kbe ?_ (Or.inl (PyProof.noPylong_of_log2 ?kbp))); (case kbe => first | assumption | omega); (case kbp => assumption)) | walk1 | (dsimp only; walk1) | (leave1; (try dsimp only)) | fail "no step")
  refine IterE2.zip rfl F' N' (List.mem_cons_of_mem _ mr) (List.mem_cons_of_mem _ mb') (by simpa using hsz) (fun i zs led₁ => ∃ tl, led₁ = tl ++ ((L' + 1, oc) :: led) ∧ (∀ p ∈ tl, ∀ q ∈ led, q.1 < p.1) ∧ Cells tl zs (List.zipWith (fun p q => p - f * q) (ps.take i) (qs.take i))) ⟨[], rfl, (fun _ h => nomatch h), by simpa using Cells.nil⟩ ?_ ?_
  · intro i v v₂ zs led₁ own C oC m₂ h tk E' hi hv hv₂ hJ hC hns hx1 hx2 F1 N1
    refine hide fun H9 hH9 => ?_
    obtain ⟨tl, rfl, ht, hJ⟩ := hJ
    obtain ⟨a, p, t1, u1, rfl, hma, hpi⟩ := cx.get (by simpa using hv)
    obtain ⟨c, q, t2, u2, rfl, hmc, hqi⟩ := cy.get (by simpa using hv₂)
    refine hH9 ?_
    clear hH9 H9
    have hp' := hp p (List.mem_of_getElem? hpi)
    have hq' := hq q (List.mem_of_getElem? hqi)
    have hg := Qb.mul hf hq'
    repeat' ((fail_if_success (first | (with_reducible refine stop_ref ?_) | (with_reducible refine stop_lc ?_) | (with_reducible refine stop_alc ?_) | (with_reducible refine stop_zip ?_) | (with_reducible show IterE1 _ _ _ _ _ _ _ _ _ _ _ _ _ _ _) | (with_reducible show IterA1 _ _ _ _ _ _ _ _ _ _ _ _ _ _ _ _) | (with_reducible show CompOut _ _ _ _ _ _ _ _ _) | (with_reducible show IterF _ _ _ _ _ _ _ _ _ _ _) | (with_reducible show ForOut _ _ _ _ _ _ _ _ _))); first | (k_unfold; (try dsimp only)) | ((with_reducible refine item_shape ?_); k_dflt (refine item_at (by k_asm) (by k_mem) (by assumption) (by first | (with_reducible exact Int.natCast_nonneg _) | (with_reducible assumption) | decide | omega) (by first | (with_reducible assumption) | decide | omega) ?_)) | ((with_reducible refine for_shape ?_); k_dflt (refine ForF (by k_asm) (by rfl) (by rfl) (by with_unfolding_all passes_own) ?_)) | ((with_reducible show wpAny _ _ (call (Value.builtin "len") [Value.ref _]) _ _ _); k_dflt (refine kst_len (by k_asm) (by k_mem) (by first | assumption | rfl) (by omega) ?_)) | ((with_reducible refine floordiv_int ?kbe ?_ (Or.inl (PyProof.noPylong_of_log2 ?kbp))); (case kbe => first | assumption | omega); (case kbp => assumption)) | walk1 | (dsimp only; walk1) | (leave1; (try dsimp only)) | fail "no step")
    refine Tell.goQ (C := t_times _ _ _ _ _ _ _ _ _ _ _ _ _ _ _ (by k_mem) (by k_mem) (by assumption) (by assumption) (by omega)) (ret := ?_)
    intro x8 t8 u8 h8 tk8 l8 F8 N8
    (try dsimp only)
    (try k_fold)
    repeat' ((fail_if_success (first | (with_reducible refine stop_ref ?_) | (with_reducible refine stop_lc ?_) | (with_reducible refine stop_alc ?_) | (with_reducible refine stop_zip ?_) | (with_reducible show IterE1 _ _ _ _ _ _ _ _ _ _ _ _ _ _ _) | (with_reducible show IterA1 _ _ _ _ _ _ _ _ _ _ _ _ _ _ _ _) | (with_reducible show CompOut _ _ _ _ _ _ _ _ _) | (with_reducible show IterF _ _ _ _ _ _ _ _ _ _ _) | (with_reducible show ForOut _ _ _ _ _ _ _ _ _))); first | (k_unfold; (try dsimp only)) | ((with_reducible refine item_shape ?_); k_dflt (refine item_at (by k_asm) (by k_mem) (by assumption) (by first | (with_reducible exact Int.natCast_nonneg _) | (with_reducible assumption) | decide | omega) (by first | (with_reducible assumption) | decide | omega) ?_)) | ((with_reducible refine for_shape ?_); k_dflt (refine ForF (by k_asm) (by rfl) (by rfl) (by with_unfolding_all passes_own) ?_)) | ((with_reducible show wpAny _ _ (call (Value.builtin "len") [Value.ref _]) _ _ _); k_dflt (refine kst_len (by k_asm) (by k_mem) (by first | assumption | rfl) (by omega) ?_)) | ((with_reducible refine floordiv_int ?kbe ?_ (Or.inl (PyProof.noPylong_of_log2 ?kbp))); (case kbe => first | assumption | omega); (case kbp => assumption)) | walk1 | (dsimp only; walk1) | (leave1; (try dsimp only)) | fail "no step")
    refine Tell.goQ (C := t_less _ _ _ _ _ _ _ _ _ _ _ _ _ _ _ (by k_mem) (by k_mem) (by assumption) (by assumption) (by omega)) (ret := ?_)
    intro x9 t9 u9 h9 tk9 l9 F9 N9
    (try dsimp only)
    (try k_fold)
    repeat' ((fail_if_success (first | (with_reducible refine stop_ref ?_) | (with_reducible refine stop_lc ?_) | (with_reducible refine stop_alc ?_) | (with_reducible refine stop_zip ?_) | (with_reducible show IterE1 _ _ _ _ _ _ _ _ _ _ _ _ _ _ _) | (with_reducible show IterA1 _ _ _ _ _ _ _ _ _ _ _ _ _ _ _ _) | (with_reducible show CompOut _ _ _ _ _ _ _ _ _) | (with_reducible show IterF _ _ _ _ _ _ _ _ _ _ _) | (with_reducible show ForOut _ _ _ _ _ _ _ _ _))); first | (k_unfold; (try dsimp only)) | ((with_reducible refine item_shape ?_); k_dflt (refine item_at (by k_asm) (by k_mem) (by assumption) (by first | (with_reducible exact Int.natCast_nonneg _) | (with_reducible assumption) | decide | omega) (by first | (with_reducible assumption) | decide | omega) ?_)) | ((with_reducible refine for_shape ?_); k_dflt (refine ForF (by k_asm) (by rfl) (by rfl) (by with_unfolding_all passes_own) ?_)) | ((with_reducible show wpAny _ _ (call (Value.builtin "len") [Value.ref _]) _ _ _); k_dflt (refine kst_len (by k_asm) (by k_mem) (by first | assumption | rfl) (by omega) ?_)) | ((with_reducible refine floordiv_int ?kbe ?_ (Or.inl (PyProof.noPylong_of_log2 ?kbp))); (case kbe => first | assumption | omega); (case kbp => assumption)) | walk1 | (dsimp only; walk1) | (leave1; (try dsimp only)) | fail "no step")
    refine compOut_one (by k_asm) (by k_asm) (fun p hp => List.mem_cons_of_mem _ hp) (by assumption) ⟨_ :: tl, rfl, fun p hp q hq => ?_, ?_⟩
    · rcases List.mem_cons.mp hp with rfl | hp
      · exact lt_of_all (by assumption) q (List.mem_cons_of_mem _ (List.mem_append_right _ (List.mem_append_right _ (List.mem_cons_of_mem _ hq))))
      · exact ht p hp q hq
    · rw [take_zip_succ hpi hqi]
      exact (hJ.mono fun p hp => List.mem_cons_of_mem _ hp).snoc List.mem_cons_self
  · intro D h tk zs led₁ F2 N2 hD hlt hlen hJ
    refine hide fun H9 hH9 => ?_
    obtain ⟨tl, rfl, ht, hJ2⟩ := hJ
    refine hH9 ?_
    clear hH9 H9
    repeat' ((fail_if_success (first | (with_reducible refine stop_ref ?_) | (with_reducible refine stop_lc ?_) | (with_reducible refine stop_alc ?_) | (with_reducible refine stop_zip ?_) | (with_reducible show IterE1 _ _ _ _ _ _ _ _ _ _ _ _ _ _ _) | (with_reducible show IterA1 _ _ _ _ _ _ _ _ _ _ _ _ _ _ _ _) | (with_reducible show CompOut _ _ _ _ _ _ _ _ _) | (with_reducible show IterF _ _ _ _ _ _ _ _ _ _ _) | (with_reducible show ForOut _ _ _ _ _ _ _ _ _))); first | (k_unfold; (try dsimp only)) | ((with_reducible refine item_shape ?_); k_dflt (refine item_at (by k_asm) (by k_mem) (by assumption) (by first | (with_reducible exact Int.natCast_nonneg _) | (with_reducible assumption) | decide | omega) (by first | (with_reducible assumption) | decide | omega) ?_)) | ((with_reducible refine for_shape ?_); k_dflt (refine ForF (by k_asm) (by rfl) (by rfl) (by with_unfolding_all passes_own) ?_)) | ((with_reducible show wpAny _ _ (call (Value.builtin "len") [Value.ref _]) _ _ _); k_dflt (refine kst_len (by k_asm) (by k_mem) (by first | assumption | rfl) (by omega) ?_)) | ((with_reducible refine floordiv_int ?kbe ?_ (Or.inl (PyProof.noPylong_of_log2 ?kbp))); (case kbe => first | assumption | omega); (case kbp => assumption)) | walk1 | (dsimp only; walk1) | (leave1; (try dsimp only)) | fail "no step")
    have hz : min xs.toArray.size ys.toArray.size = min ps.length qs.length := by rw [List.size_toArray, List.size_toArray, cx.length, cy.length]
    rw [hz, zip_take_all] at hJ2
    refine hret _ (((D, LCg.lst zs) :: tl) ++ led) _ _ (by k_asm) (News.drop (news' := (D, LCg.lst zs) :: (tl ++ (L' + 1, oc) :: led)) (by k_asm) fun p hp => ?_) ⟨_, rfl, fun p hp q hq => ?_, D, _, zs, rfl, List.mem_cons_self, hJ2.mono fun p hp => List.mem_cons_of_mem _ hp⟩
    · rcases List.mem_append.mp hp with hp | hp
      · rcases List.mem_cons.mp hp with rfl | hp
        · exact List.mem_cons_self
        · exact List.mem_cons_of_mem _ (List.mem_append_left _ hp)
      · exact List.mem_cons_of_mem _ (List.mem_append_right _ (List.mem_cons_of_mem _ hp))
    · rcases List.mem_cons.mp hp with rfl | hp
      · exact hlt q (List.mem_cons_of_mem _ hq)
      · exact ht p hp q hq
theorem IterF.hideQ {prog : Program} {w : World} {A : Around} {E : Value → Shared → Prop} {h₀ : Heap} {env : Env} {x : Str} {body : List Stmt} {Q : Flow → Shared → Prop} {v : Value} {s : Shared}
    (h : ∀ Q' : Flow → Shared → Prop, (∀ f s, Q f s → Q' f s) → IterF prog w A E h₀ env x body Q' v s) : IterF prog w A E h₀ env x body Q v s := h Q fun _ _ h => h
theorem hideQE {M : Model} {A : Around} {α : Type} {t : Sem α} {Q : α → Shared → Prop} {E : Value → Shared → Prop} {s : Shared} (h : ∀ Q' E', (∀ f s, Q f s → Q' f s) → (∀ f s, E f s → E' f s) → wpAny M A t Q' E' s) : wpAny M A t Q E s := h Q E (fun _ _ h => h) fun _ _ h => h
theorem t_pivot (w : World) (mean : ExcName → Option Value) (mg mb : Str → Option Value) (led : List (Addr × Obj)) (M : List (List Rat)) (R : Addr) (kR c : Nat) (rs : List Value) (tc : Tok) (mR : (R, ({ cls := .type "list", data := .seq (List.toArray rs) kR } : Obj)) ∈ led) (hM : Rows led rs M) (hw : ∀ qs ∈ M, c < qs.length) (hl : M.length < 2 ^ 24) (hc : c ≤ M.length) :
    Tell w mean mg mb 121 2 led [.ref R, .int c tc] (fun led' v => led' = led ∧ match pivotIn M c (M.length - c) c with | some i => ∃ t, v = .int (i : Nat) t | none => v = .none) := by
  intro dp un gd cn cs a₁ ccd cl outer A₀ base h₀ L m s Q E B F X N T hk hd hu hret
  refine wpAny_call ?_
  k_dflt (refine' code_def (binds := [(Str.ofString "rows", .ref R), (Str.ofString "at", .int c tc)]) ?k1 ?k2 ?k3 ?k4 ?k5 ?kA ?kF ?kK ?k6 ?k7 ?k8 ?k9 ?kB ?_ ?c2 ?c3 ?c4 ?c5; (case kA => exact rfl); (case kF => exact rfl); (case kK => first | exact rfl | assumption); (case k1 => k_asm); (case k2 => k_asm); (case k3 => k_asm); (case k4 => k_asm); (case k5 => k_asm); (case k6 => k_is); (case k7 => k_is); (case k8 => ktr_room); (case k9 => exact BindsTo.of_eq rfl); (case c5 => decide); (case kB => exact locs rfl); (case c2 => exact rfl); (case c3 => exact rfl); (case c4 => exact rfl); k_whole; intro g' L' h' FG' F' N' B' X' T'; (try dsimp only); (try k_fold))
  have hrl := hM.1
  repeat' ((fail_if_success (first | (with_reducible refine stop_ref ?_) | (with_reducible refine stop_lc ?_) | (with_reducible refine stop_alc ?_) | (with_reducible refine stop_zip ?_) | (with_reducible show IterE1 _ _ _ _ _ _ _ _ _ _ _ _ _ _ _) | (with_reducible show IterA1 _ _ _ _ _ _ _ _ _ _ _ _ _ _ _ _) | (with_reducible show CompOut _ _ _ _ _ _ _ _ _) | (with_reducible show IterF _ _ _ _ _ _ _ _ _ _ _) | (with_reducible show ForOut _ _ _ _ _ _ _ _ _))); first | (k_unfold; (try dsimp only)) | ((with_reducible refine item_shape ?_); k_dflt (refine item_at (by k_asm) (by k_mem) (by assumption) (by first | (with_reducible exact Int.natCast_nonneg _) | (with_reducible assumption) | decide | omega) (by first | (with_reducible assumption) | decide | omega) ?_)) | ((with_reducible refine for_shape ?_); k_dflt (refine ForF (by k_asm) (by rfl) (by rfl) (by with_unfolding_all passes_own) ?_)) | ((with_reducible show wpAny _ _ (call (Value.builtin "len") [Value.ref _]) _ _ _); k_dflt (refine kst_len (by k_asm) (by k_mem) (by first | assumption | rfl) (by omega) ?_)) | ((with_reducible refine floordiv_int ?kbe ?_ (Or.inl (PyProof.noPylong_of_log2 ?kbp))); (case kbe => first | assumption | omega); (case kbp => assumption)) | walk1 | (dsimp only; walk1) | (leave1; (try dsimp only)) | fail "no step")
  rename IsRange _ _ _ _ _ _ _ _ => hr
  obtain ⟨hsm, hn⟩ := small_of (a := c) (b := M.length) (n := M.length - c) (by omega) (by omega) (by omega)
  refine IterF.hideQ fun Q9 hQ9 => ?_
  refine IterF.range rfl (by k_asm) (by k_asm) hr hsm hn (fun i m₁ led₁ => led₁ = led ∧ m₁ (Str.ofString "rows") = some (.ref R) ∧ m₁ (Str.ofString "at") = some (.int c tc) ∧ pivotIn M c (M.length - c) c = pivotIn M c (M.length - c - i) (c + i)) ⟨rfl, rfl, rfl, rfl⟩ ?_ ?_
  · intro i t m₁ led₁ own h tk hi hJ sep hown F1 N1
    refine hide fun H9 hH9 => ?_
    obtain ⟨rfl, e1, e2, e3⟩ := hJ
    have F2 := fr_known (fr_known F1 (x := Str.ofString "rows") (v := .ref R) (by rw [if_neg (by decide)]; exact e1)) (x := Str.ofString "at") (v := .int c tc) (by rw [if_neg (by decide), if_neg (by decide)]; exact e2)
    clear F1
    have hi' : c + i < M.length := by omega
    have hfitC : ((c : Nat) : Int) < 2 ^ 63 := by omega
    have hfitI : ((c : Nat) : Int) + ((i : Nat) : Int) < 2 ^ 63 := by omega
    have hposI : 0 ≤ ((c : Nat) : Int) + ((i : Nat) : Int) := Int.add_nonneg (Int.natCast_nonneg _) (Int.natCast_nonneg _)
    have hqs : M[c + i]? = some M[c + i] := List.getElem?_eq_getElem hi'
    obtain ⟨v, hv, r, kr, cs, rfl, hmr, hcs⟩ := hM.at hqs
    have hcl := hw _ (List.getElem_mem hi')
    obtain ⟨a, ta, ua, hca, hma⟩ := hcs.at (List.getElem?_eq_getElem hcl)
    have hx1 : rs[((c : Int) + (i : Int)).toNat]? = some (.ref r) := by rw [← Int.natCast_add, Int.toNat_natCast]; exact hv
    have hx2 : cs[((c : Int)).toNat]? = some (.ref a) := by rw [Int.toNat_natCast]; exact hca
    obtain ⟨k', hk'⟩ : ∃ k', M.length - c - i = k' + 1 := ⟨M.length - c - i - 1, by omega⟩
    refine hH9 ?_
    clear hH9 H9
    repeat' ((fail_if_success (first | (with_reducible refine stop_ref ?_) | (with_reducible refine stop_lc ?_) | (with_reducible refine stop_alc ?_) | (with_reducible refine stop_zip ?_) | (with_reducible show IterE1 _ _ _ _ _ _ _ _ _ _ _ _ _ _ _) | (with_reducible show IterA1 _ _ _ _ _ _ _ _ _ _ _ _ _ _ _ _) | (with_reducible show CompOut _ _ _ _ _ _ _ _ _) | (with_reducible show IterF _ _ _ _ _ _ _ _ _ _ _) | (with_reducible show ForOut _ _ _ _ _ _ _ _ _))); first | (k_unfold; (try dsimp only)) | ((with_reducible refine item_shape ?_); k_dflt (refine item_at (by k_asm) (by k_mem) (by assumption) (by first | (with_reducible exact Int.natCast_nonneg _) | (with_reducible assumption) | decide | omega) (by first | (with_reducible assumption) | decide | omega) ?_)) | ((with_reducible refine for_shape ?_); k_dflt (refine ForF (by k_asm) (by rfl) (by rfl) (by with_unfolding_all passes_own) ?_)) | ((with_reducible show wpAny _ _ (call (Value.builtin "len") [Value.ref _]) _ _ _); k_dflt (refine kst_len (by k_asm) (by k_mem) (by first | assumption | rfl) (by omega) ?_)) | ((with_reducible refine floordiv_int ?kbe ?_ (Or.inl (PyProof.noPylong_of_log2 ?kbp))); (case kbe => first | assumption | omega); (case kbp => assumption)) | walk1 | (dsimp only; walk1) | (leave1; (try dsimp only)) | fail "no step")
    · unfold ForOut
      refine hQ9 _ _ ?_
      dsimp only
      repeat' ((fail_if_success (first | (with_reducible refine stop_ref ?_) | (with_reducible refine stop_lc ?_) | (with_reducible refine stop_alc ?_) | (with_reducible refine stop_zip ?_) | (with_reducible show IterE1 _ _ _ _ _ _ _ _ _ _ _ _ _ _ _) | (with_reducible show IterA1 _ _ _ _ _ _ _ _ _ _ _ _ _ _ _ _) | (with_reducible show CompOut _ _ _ _ _ _ _ _ _) | (with_reducible show IterF _ _ _ _ _ _ _ _ _ _ _) | (with_reducible show ForOut _ _ _ _ _ _ _ _ _))); first | (k_unfold; (try dsimp only)) | ((with_reducible refine item_shape ?_); k_dflt (refine item_at (by k_asm) (by k_mem) (by assumption) (by first | (with_reducible exact Int.natCast_nonneg _) | (with_reducible assumption) | decide | omega) (by first | (with_reducible assumption) | decide | omega) ?_)) | ((with_reducible refine for_shape ?_); k_dflt (refine ForF (by k_asm) (by rfl) (by rfl) (by with_unfolding_all passes_own) ?_)) | ((with_reducible show wpAny _ _ (call (Value.builtin "len") [Value.ref _]) _ _ _); k_dflt (refine kst_len (by k_asm) (by k_mem) (by first | assumption | rfl) (by omega) ?_)) | ((with_reducible refine floordiv_int ?kbe ?_ (Or.inl (PyProof.noPylong_of_log2 ?kbp))); (case kbe => first | assumption | omega); (case kbp => assumption)) | walk1 | (dsimp only; walk1) | (leave1; (try dsimp only)) | fail "no step")
      refine hret _ _ _ _ (by k_asm) (News.drop (by k_asm) fun p hp => List.mem_append_right _ hp) ⟨rfl, ?_⟩
      rw [e3, hk', pivotIn_hit hqs (List.getElem?_eq_getElem hcl) (fun e => (by assumption : M[c + i][c].num ≠ 0) (Rat.num_eq_zero.mpr e))]
      exact ⟨_, by rw [Int.natCast_add]⟩
    · refine forOut_same (by k_asm) (by k_asm) (fun _ h => h) ⟨rfl, ?_, ?_, ?_⟩
      · with_unfolding_all rfl
      · with_unfolding_all rfl
      · rw [e3, hk', pivotIn_miss hqs (List.getElem?_eq_getElem hcl) (Rat.num_eq_zero.mp (by assumption)), show M.length - c - (i + 1) = k' by omega]; rfl
  · intro h tk m₁ led₁ hJ F1 N1
    refine hide fun H9 hH9 => ?_
    obtain ⟨rfl, e1, e2, e3⟩ := hJ
    refine hH9 ?_
    clear hH9 H9
    refine hQ9 _ _ ?_
    (try dsimp only)
    repeat' ((fail_if_success (first | (with_reducible refine stop_ref ?_) | (with_reducible refine stop_lc ?_) | (with_reducible refine stop_alc ?_) | (with_reducible refine stop_zip ?_) | (with_reducible show IterE1 _ _ _ _ _ _ _ _ _ _ _ _ _ _ _) | (with_reducible show IterA1 _ _ _ _ _ _ _ _ _ _ _ _ _ _ _ _) | (with_reducible show CompOut _ _ _ _ _ _ _ _ _) | (with_reducible show IterF _ _ _ _ _ _ _ _ _ _ _) | (with_reducible show ForOut _ _ _ _ _ _ _ _ _))); first | (k_unfold; (try dsimp only)) | ((with_reducible refine item_shape ?_); k_dflt (refine item_at (by k_asm) (by k_mem) (by assumption) (by first | (with_reducible exact Int.natCast_nonneg _) | (with_reducible assumption) | decide | omega) (by first | (with_reducible assumption) | decide | omega) ?_)) | ((with_reducible refine for_shape ?_); k_dflt (refine ForF (by k_asm) (by rfl) (by rfl) (by with_unfolding_all passes_own) ?_)) | ((with_reducible show wpAny _ _ (call (Value.builtin "len") [Value.ref _]) _ _ _); k_dflt (refine kst_len (by k_asm) (by k_mem) (by first | assumption | rfl) (by omega) ?_)) | ((with_reducible refine floordiv_int ?kbe ?_ (Or.inl (PyProof.noPylong_of_log2 ?kbp))); (case kbe => first | assumption | omega); (case kbp => assumption)) | walk1 | (dsimp only; walk1) | (leave1; (try dsimp only)) | fail "no step")
    refine hret _ _ _ _ (by k_asm) (by k_asm) ⟨rfl, ?_⟩
    rw [e3, Nat.sub_self]
    rfl
section
theorem fit_lt {i n : Nat} (h : i < n) (hn : n < 2 ^ 63) : ((i : Nat) : Int) < 2 ^ 63 := by omega
theorem Inv.elim {led led₁ : List (Addr × Obj)} {R C : Addr} {n : Nat} {M : Mat} {q : Rat} {m : Str → Option Value} {H : Prop} (h : Inv led R C n M q m led₁)
    (go : ∀ (rest : List (Addr × Obj)) (rs : List Value) (k : Nat) (oc : Obj) (v : Option Value) (T : Addr) (a b ts : Tok), led₁ = (R, { cls := .type "list", data := .seq rs.toArray k }) :: (C, oc) :: rest → oc.data = .cell v → OwnOff rest [R, C] → Above led rest → Rows rest rs M →
    (T, ({ cls := .type "tuple", data := .seq #[.int q.num a, .int (q.den : Nat) b] } : Obj)) ∈ rest → m (Str.ofString "rows") = some (.ref R) → m (Str.ofString "told") = some (.ref T) → m (Str.ofString "size") = some (.int n ts) → H) : H := by
  obtain ⟨rest, rs, k, oc, v, T, a, b, ts, h1, h2, h3, h4, h5, h6, h7, h8, h9⟩ := h
  exact go rest rs k oc v T a b ts h1 h2 h3 h4 h5 h6 h7 h8 h9
def SolvedJ (led : List (Addr × Obj)) (R C : Addr) (n wd k : Nat) (M : Mat) (i : Nat) (m₁ : Str → Option Value) (led₁ : List (Addr × Obj)) : Prop := ∃ Mi ti, Inv led R C n Mi ti m₁ led₁ ∧ Wide n wd Mi ∧ Mbits (Bit k i) Mi ∧ Qb (Bit k i) ti ∧ solveM n (n - i) i Mi ti = solveM n n 0 M 1
def ClearedJ (led : List (Addr × Obj)) (R C : Addr) (n i : Nat) (M : Mat) (q : Rat) (t : Tok) (j : Nat) (m₁ : Str → Option Value) (led₁ : List (Addr × Obj)) : Prop := Inv led R C n (clearTo i M j) q m₁ led₁ ∧ m₁ (Str.ofString "at") = some (.int i t)
def NormJ (base : List (Addr × Obj)) (qs : List Rat) (c : Rat) (j : Nat) (ys : List Value) (led₁ : List (Addr × Obj)) : Prop := ∃ tl, led₁ = tl ++ base ∧ (∀ p ∈ tl, ∀ q ∈ base, q.1 < p.1) ∧ Cells tl ys ((qs.take j).map (· / c))
def SwapP (s : Shared) (g : Heap) (L R C : Addr) (n i : Nat) (ts t : Tok) (oc : Obj) (rest0 : List (Addr × Obj)) (M : Mat) (q : Rat) (s' : Shared) : Prop :=
  ∃ h2 tk2 rs2 k2 rest2 T2 a2 b2 m2, s' = { s with heap := h2, toks := tk2 } ∧ Fr g L h2 m2 ∧ m2 (Str.ofString "rows") = some (.ref R) ∧ m2 (Str.ofString "told") = some (.ref T2) ∧ m2 (Str.ofString "size") = some (.int n ts) ∧ m2 (Str.ofString "at") = some (.int i t) ∧
          News g L h2 ((R, { cls := .type "list", data := .seq (List.toArray rs2) k2 }) :: (C, oc) :: rest2) ∧ OwnOff rest2 [R, C] ∧ Above rest0 rest2 ∧ Rows rest2 rs2 M ∧
          (T2, ({ cls := .type "tuple", data := .seq #[.int q.num a2, .int (q.den : Nat) b2] } : Obj)) ∈ rest2
theorem nn_a {n wd : Nat} (h : n ≤ wd) (h2 : wd < 2 ^ 20) : n < 2 ^ 63 := by omega
theorem nn_b {n wd : Nat} (h : n ≤ wd) (h2 : wd < 2 ^ 20) : n < 2 ^ 24 := by omega
theorem nn_c {wd : Nat} (h2 : wd < 2 ^ 20) : wd ≤ 16777216 := by omega
theorem nn_d {n wd : Nat} (h : n ≤ wd) (h2 : wd < 2 ^ 20) : ((n : Nat) : Int) < 2 ^ 30 := by omega
theorem nn_e {b : Nat} (h : 6 * b + 1 ≤ 7000) : 3 * (b + b) ≤ 7000 := by omega
theorem nn_f {n i p l : Nat} {P : Prop} (e : l = n) (h : i ≤ p ∧ p < i + (l - i) ∧ P) (hi : i < n) : p < n := by have := h.1; have := h.2.1; omega
theorem t_solved (w : World) (mean : ExcName → Option Value) (mg mb : Str → Option Value) (led : List (Addr × Obj)) (M : Mat) (n wd k : Nat) (R : Addr) (kR : Nat) (rs : List Value) (mR : (R, ({ cls := .type "list", data := .seq (List.toArray rs) kR } : Obj)) ∈ led) (hM : Rows led rs M) (hw : Wide n wd M) (hn : n ≤ wd) (hb : Mbits k M) (hk1 : 1 ≤ k) (hB : Bit k n ≤ 7000) (hwd : wd < 2 ^ 20) :
    Tell w mean mg mb 131 8 led [.ref R] (fun led' v => Ext led led' ∧ ∃ x R' kR' T rs' t u, v = .ref x ∧ (x, ({ cls := .type "tuple", data := .seq #[.ref R', .ref T] } : Obj)) ∈ led' ∧ (R', ({ cls := .type "list", data := .seq (List.toArray rs') kR' } : Obj)) ∈ led' ∧ Rows led' rs' (solveM n n 0 M 1).1 ∧ (T, ({ cls := .type "tuple", data := .seq #[.int (solveM n n 0 M 1).2.num t, .int ((solveM n n 0 M 1).2.den : Nat) u] } : Obj)) ∈ led') := by
  intro dp un gd cn cs a₁ ccd cl outer A₀ base h₀ L m s Q E B F X N T hk hd hu hret
  refine wpAny_call ?_
  k_dflt (refine' code_defC (binds := [(Str.ofString "rows", .ref R)]) ?k1 ?k2 ?k3 ?k4 ?k5 ?kA ?kF ?kK ?k6 ?k7 ?k8 ?k9 ?kB ?kD ?_ ?c2 ?c3 ?c4; (case kA => exact rfl); (case kF => exact rfl); (case kK => first | exact rfl | assumption); (case k1 => k_asm); (case k2 => k_asm); (case k3 => k_asm); (case k4 => k_asm); (case k5 => k_asm); (case k6 => k_is); (case k7 => k_is); (case k8 => ktr_room); (case k9 => exact BindsTo.of_eq rfl); (case kB => exact rfl); (case kD => decide +kernel); (case c2 => exact rfl); (case c3 => exact rfl); (case c4 => exact rfl); k_whole; intro g' L' h' tk' cells' FG' F' N' Y' B' X' T' l1; (try k_lt l1); k_cells Y'; (try simp only [List.cons_append, List.nil_append] at N'); (try dsimp only); (try k_fold))
  rename_i oc dc
  have hrl : rs.length = n := hM.1.trans hw.1
  have hsz : rs.length ≤ sizeLine := by rw [sizeLine_eq, hrl]; exact nn_c (Nat.lt_of_le_of_lt hn hwd)
  repeat' ((fail_if_success (first | (with_reducible show JoinOut _ _ _) | (with_reducible show wpAny _ _ (setItem (Value.ref _) (Value.int _ _) _) _ _ _) | (with_reducible show wpAny _ _ (exec (Stmt.If (Expr.Compare (Expr.Name (Str.ofString "spot") _) [CmpOp.NotEq] _ _) _ _ _) _) _ _ _) | (with_reducible refine stop_ref ?_) | (with_reducible refine stop_lc ?_) | (with_reducible refine stop_alc ?_) | (with_reducible refine stop_zip ?_) | (with_reducible show IterE1 _ _ _ _ _ _ _ _ _ _ _ _ _ _ _) | (with_reducible show IterA1 _ _ _ _ _ _ _ _ _ _ _ _ _ _ _ _) | (with_reducible show CompOut _ _ _ _ _ _ _ _ _) | (with_reducible show IterF _ _ _ _ _ _ _ _ _ _ _) | (with_reducible show ForOut _ _ _ _ _ _ _ _ _))); first | (k_unfold; (try dsimp only)) | ((with_reducible refine item_shape ?_); k_dflt (refine item_at (by k_asm) (by k_mem) (by assumption) (by first | (with_reducible exact Int.natCast_nonneg _) | (with_reducible assumption) | decide | omega) (by first | (with_reducible assumption) | decide | omega) ?_)) | ((with_reducible refine for_shape ?_); k_dflt (refine ForF (by k_asm) (by rfl) (by rfl) (by with_unfolding_all passes_own) ?_)) | ((with_reducible show wpAny _ _ (call (Value.builtin "len") [Value.ref _]) _ _ _); k_dflt (refine kst_len (by k_asm) (by k_mem) (by first | assumption | rfl) (by omega) ?_)) | ((with_reducible refine floordiv_int ?kbe ?_ (Or.inl (PyProof.noPylong_of_log2 ?kbp))); (case kbe => first | assumption | omega); (case kbp => assumption)) | walk1 | (dsimp only; walk1) | (leave1; (try dsimp only)) | fail "no step")
  rename_i T0 hx6 lT Dp hx7 lD hx5 hx4 hx3 tk1 R' cR hx2 lR hx1 FF NN hx0 tk0 t1 u1 v1 hr F0 N0 kp
  obtain ⟨hsm, hn'⟩ := small_of (a := 0) (b := n) (n := n) (Int.le_refl _) (nn_d hn hwd) (Int.sub_zero _).symm
  have ltT : ∀ q ∈ led, q.1 < T0 := lt_of_all lT.2
  have ltD : ∀ q ∈ led, q.1 < Dp := lt_of_all lD.2.2
  have ltR : ∀ q ∈ led, q.1 < R' := lt_of_all lR.2.2.2
  have hCR : @LT.lt Nat _ (L' + 1) R' := lR.2.2.1
  clear FF NN hx6 hx7 hx5 hx4 hx3 hx2 kp
  refine IterF.hideQ fun Q9 hQ9 => ?_
  refine IterF.range rfl F0 (led := (R', { cls := .type "list", data := .seq rs.toArray cR }) :: (L' + 1, oc) :: (T0, { cls := .type "tuple", data := .seq #[.int 1 tk', .int 1 (tk' + 1)] }) :: led) (News.drop N0 ?_) hr hsm hn'
    (SolvedJ led R' (L' + 1) n wd k M)
    ⟨M, 1, ⟨_, rs, cR, oc, _, T0, _, _, _, rfl, dc, ?_, (Above.refl led).cons ltT, hM.mono (fun p hp => List.mem_cons_of_mem _ hp), List.mem_cons_self, rfl, rfl, rfl⟩, hw, hb, ⟨Nat.le_trans (by decide) hk1, Nat.le_trans (by decide) hk1⟩, rfl⟩ ?_ ?_
  · intro p hp
    simp only [List.mem_cons] at hp ⊢
    rcases hp with h | h | h | h
    · exact .inl h
    · exact .inr (.inr (.inr (.inl h)))
    · exact .inr (.inr (.inl h))
    · exact .inr (.inr (.inr (.inr h)))
  · refine mem_own2 (fun p hp => ?_) (fun p hp => ?_)
    · rcases List.mem_cons.mp hp with rfl | hp
      · exact Nat.ne_of_lt lR.2.1
      · exact Nat.ne_of_lt (ltR p hp)
    · rcases List.mem_cons.mp hp with rfl | hp
      · exact Ne.symm (Nat.ne_of_lt lT.1)
      · exact Nat.ne_of_lt (Nat.lt_succ_of_lt (l1 p hp))
  · intro i t m₁ led₁ own h tk hi hJ sep hown F1 N1
    refine hide fun H9 hH9 => ?_
    obtain ⟨Mi, ti, hInv, hWi, hBi, hti, hsol⟩ := hJ
    refine hInv.elim fun rest rs1 k1 oc1 vc T ta tb ts hled hcd hoff hA hRows hT e1 e2 e3 => ?_
    clear hInv
    rw [hled] at N1 sep
    simp only [Int.zero_add] at F1
    have F2 := fr_known4 F1 (a := Str.ofString "rows") (b := Str.ofString "told") (c := Str.ofString "size") (d := Str.ofString "at") (by rw [if_neg (by decide)]; exact e1) (by rw [if_neg (by decide)]; exact e2) (by rw [if_neg (by decide)]; exact e3) (by rw [if_pos rfl])
    have N2 : News g' L' h ((R', { cls := .type "list", data := .seq rs1.toArray k1 }) :: (L' + 1, oc1) :: (rest ++ own)) := News.drop N1 fun p hp => by
      simp only [List.mem_cons, List.mem_append] at hp ⊢
      rcases hp with h | h | h | h
      · exact .inr (.inl h)
      · exact .inr (.inr (.inl h))
      · exact .inr (.inr (.inr h))
      · exact .inl h
    have hoff0 : OwnOff (rest ++ own) [R', L' + 1] := Mine.OwnOff.app hoff (mem_own2 (fun p hp e => sep _ List.mem_cons_self p hp e.symm) (fun p hp e => sep _ (List.mem_cons_of_mem _ List.mem_cons_self) p hp e.symm))
    have hRows0 : Rows (rest ++ own) rs1 Mi := hRows.mono fun p hp => List.mem_append_left _ hp
    have hT0 := List.mem_append_left own hT
    clear F1 N1 F0 N0 hr
    generalize hr0 : rest ++ own = rest0 at N2 hoff0 hRows0 hT0
    have hRowsL : Rows ((R', { cls := .type "list", data := .seq rs1.toArray k1 }) :: (L' + 1, oc1) :: rest0) rs1 Mi := hRows0.mono fun p hp => List.mem_cons_of_mem _ (List.mem_cons_of_mem _ hp)
    have hwi : ∀ qs ∈ Mi, i < qs.length := fun qs hq => by rw [hWi.2 qs hq]; exact Nat.lt_of_lt_of_le hi hn
    have hli : Mi.length < 2 ^ 24 := by rw [hWi.1]; exact nn_b hn hwd
    have hci : i ≤ Mi.length := by rw [hWi.1]; exact Nat.le_of_lt hi
    have hrl1 : rs1.length = n := hRows.1.trans hWi.1
    have hn63 : n < 2 ^ 63 := nn_a hn hwd
    have hfitI := fit_lt hi hn63
    refine hH9 ?_
    clear hH9 H9
    subst hled
    repeat' ((fail_if_success (first | (with_reducible show JoinOut _ _ _) | (with_reducible show wpAny _ _ (setItem (Value.ref _) (Value.int _ _) _) _ _ _) | (with_reducible show wpAny _ _ (exec (Stmt.If (Expr.Compare (Expr.Name (Str.ofString "spot") _) [CmpOp.NotEq] _ _) _ _ _) _) _ _ _) | (with_reducible refine stop_ref ?_) | (with_reducible refine stop_lc ?_) | (with_reducible refine stop_alc ?_) | (with_reducible refine stop_zip ?_) | (with_reducible show IterE1 _ _ _ _ _ _ _ _ _ _ _ _ _ _ _) | (with_reducible show IterA1 _ _ _ _ _ _ _ _ _ _ _ _ _ _ _ _) | (with_reducible show CompOut _ _ _ _ _ _ _ _ _) | (with_reducible show IterF _ _ _ _ _ _ _ _ _ _ _) | (with_reducible show ForOut _ _ _ _ _ _ _ _ _))); first | (k_unfold; (try dsimp only)) | ((with_reducible refine item_shape ?_); k_dflt (refine item_at (by k_asm) (by k_mem) (by assumption) (by first | (with_reducible exact Int.natCast_nonneg _) | (with_reducible assumption) | decide | omega) (by first | (with_reducible assumption) | decide | omega) ?_)) | ((with_reducible refine for_shape ?_); k_dflt (refine ForF (by k_asm) (by rfl) (by rfl) (by with_unfolding_all passes_own) ?_)) | ((with_reducible show wpAny _ _ (call (Value.builtin "len") [Value.ref _]) _ _ _); k_dflt (refine kst_len (by k_asm) (by k_mem) (by first | assumption | rfl) (by omega) ?_)) | ((with_reducible refine floordiv_int ?kbe ?_ (Or.inl (PyProof.noPylong_of_log2 ?kbp))); (case kbe => first | assumption | omega); (case kbp => assumption)) | walk1 | (dsimp only; walk1) | (leave1; (try dsimp only)) | fail "no step")
    refine Tell.goO (C := t_pivot _ _ _ _ _ _ _ _ _ _ _ (by k_mem) (by assumption) (by assumption) (by assumption) (by assumption)) (one := ?_) (non := ?_)
    rotate_left
    · intro h9 tk9 hnone F9 N9
      (try dsimp only)
      (try k_fold)
      repeat' ((fail_if_success (first | (with_reducible show JoinOut _ _ _) | (with_reducible show wpAny _ _ (setItem (Value.ref _) (Value.int _ _) _) _ _ _) | (with_reducible show wpAny _ _ (exec (Stmt.If (Expr.Compare (Expr.Name (Str.ofString "spot") _) [CmpOp.NotEq] _ _) _ _ _) _) _ _ _) | (with_reducible refine stop_ref ?_) | (with_reducible refine stop_lc ?_) | (with_reducible refine stop_alc ?_) | (with_reducible refine stop_zip ?_) | (with_reducible show IterE1 _ _ _ _ _ _ _ _ _ _ _ _ _ _ _) | (with_reducible show IterA1 _ _ _ _ _ _ _ _ _ _ _ _ _ _ _ _) | (with_reducible show CompOut _ _ _ _ _ _ _ _ _) | (with_reducible show IterF _ _ _ _ _ _ _ _ _ _ _) | (with_reducible show ForOut _ _ _ _ _ _ _ _ _))); first | (k_unfold; (try dsimp only)) | ((with_reducible refine item_shape ?_); k_dflt (refine item_at (by k_asm) (by k_mem) (by assumption) (by first | (with_reducible exact Int.natCast_nonneg _) | (with_reducible assumption) | decide | omega) (by first | (with_reducible assumption) | decide | omega) ?_)) | ((with_reducible refine for_shape ?_); k_dflt (refine ForF (by k_asm) (by rfl) (by rfl) (by with_unfolding_all passes_own) ?_)) | ((with_reducible show wpAny _ _ (call (Value.builtin "len") [Value.ref _]) _ _ _); k_dflt (refine kst_len (by k_asm) (by k_mem) (by first | assumption | rfl) (by omega) ?_)) | ((with_reducible refine floordiv_int ?kbe ?_ (Or.inl (PyProof.noPylong_of_log2 ?kbp))); (case kbe => first | assumption | omega); (case kbp => assumption)) | walk1 | (dsimp only; walk1) | (leave1; (try dsimp only)) | fail "no step")
      unfold ForOut
      refine hQ9 _ _ ?_
      dsimp only
      repeat' ((fail_if_success (first | (with_reducible show JoinOut _ _ _) | (with_reducible show wpAny _ _ (setItem (Value.ref _) (Value.int _ _) _) _ _ _) | (with_reducible show wpAny _ _ (exec (Stmt.If (Expr.Compare (Expr.Name (Str.ofString "spot") _) [CmpOp.NotEq] _ _) _ _ _) _) _ _ _) | (with_reducible refine stop_ref ?_) | (with_reducible refine stop_lc ?_) | (with_reducible refine stop_alc ?_) | (with_reducible refine stop_zip ?_) | (with_reducible show IterE1 _ _ _ _ _ _ _ _ _ _ _ _ _ _ _) | (with_reducible show IterA1 _ _ _ _ _ _ _ _ _ _ _ _ _ _ _ _) | (with_reducible show CompOut _ _ _ _ _ _ _ _ _) | (with_reducible show IterF _ _ _ _ _ _ _ _ _ _ _) | (with_reducible show ForOut _ _ _ _ _ _ _ _ _))); first | (k_unfold; (try dsimp only)) | ((with_reducible refine item_shape ?_); k_dflt (refine item_at (by k_asm) (by k_mem) (by assumption) (by first | (with_reducible exact Int.natCast_nonneg _) | (with_reducible assumption) | decide | omega) (by first | (with_reducible assumption) | decide | omega) ?_)) | ((with_reducible refine for_shape ?_); k_dflt (refine ForF (by k_asm) (by rfl) (by rfl) (by with_unfolding_all passes_own) ?_)) | ((with_reducible show wpAny _ _ (call (Value.builtin "len") [Value.ref _]) _ _ _); k_dflt (refine kst_len (by k_asm) (by k_mem) (by first | assumption | rfl) (by omega) ?_)) | ((with_reducible refine floordiv_int ?kbe ?_ (Or.inl (PyProof.noPylong_of_log2 ?kbp))); (case kbe => first | assumption | omega); (case kbp => assumption)) | walk1 | (dsimp only; walk1) | (leave1; (try dsimp only)) | fail "no step")
      rename_i hx2 Tz hx3 lz Xz hx4 FX NX lX kF kN tc kx
      have hS : solveM n n 0 M 1 = (Mi, 0) := by
        rw [← hsol, show n - i = (n - i - 1) + 1 from (Nat.sub_add_cancel (Nat.sub_pos_of_lt hi)).symm]
        unfold solveM turnM
        rw [hnone]
      have hle : ∀ q ∈ led, q ∈ rest0 := fun q hq => by rw [← hr0]; exact List.mem_append_left _ (hA.1 q hq)
      obtain ⟨led', hE, hs1, hs2⟩ := Ext.of_above (led := led) (rest := (Xz, { cls := .type "tuple", data := .seq #[.ref R', .ref Tz] }) :: (Tz, { cls := .type "tuple", data := .seq #[.int 0 tk, .int 1 (tk + 1)] }) :: (R', { cls := .type "list", data := .seq rs1.toArray k1 }) :: (L' + 1, oc1) :: rest)
        ((((hA.cons (fun q hq => Nat.lt_succ_of_lt (l1 q hq))).cons ltR).cons (fun q hq => lt_of_all lz.2.2 q (hle q hq))).cons (fun q hq => lt_of_all lX.2.2.2 q (hle q hq)))
      refine hret _ led' _ _ kF (News.drop kN fun p hp => ?_) ?_
      · have := hs1 p hp
        rw [← hr0]
        simp only [List.mem_cons, List.mem_append] at this ⊢
        rcases this with h | h | h | h | h
        · exact .inl h
        · exact .inr (.inl h)
        · exact .inr (.inr (.inl h))
        · exact .inr (.inr (.inr (.inl h)))
        · exact .inr (.inr (.inr (.inr (.inl h))))
      · simp only [hS]
        refine ⟨hE, Xz, R', k1, Tz, rs1, tk, tk + 1, rfl, hs2 _ List.mem_cons_self, hs2 _ (List.mem_cons_of_mem _ (List.mem_cons_of_mem _ List.mem_cons_self)), hRows.mono fun p hp => hs2 _ ?_, hs2 _ (List.mem_cons_of_mem _ List.mem_cons_self)⟩
        exact List.mem_cons_of_mem _ (List.mem_cons_of_mem _ (List.mem_cons_of_mem _ (List.mem_cons_of_mem _ hp)))
    · intro p t9 h9 tk9 hsome F9 N9
      (try dsimp only)
      (try k_fold)
      repeat' ((fail_if_success (first | (with_reducible show JoinOut _ _ _) | (with_reducible show wpAny _ _ (setItem (Value.ref _) (Value.int _ _) _) _ _ _) | (with_reducible show wpAny _ _ (exec (Stmt.If (Expr.Compare (Expr.Name (Str.ofString "spot") _) [CmpOp.NotEq] _ _) _ _ _) _) _ _ _) | (with_reducible refine stop_ref ?_) | (with_reducible refine stop_lc ?_) | (with_reducible refine stop_alc ?_) | (with_reducible refine stop_zip ?_) | (with_reducible show IterE1 _ _ _ _ _ _ _ _ _ _ _ _ _ _ _) | (with_reducible show IterA1 _ _ _ _ _ _ _ _ _ _ _ _ _ _ _ _) | (with_reducible show CompOut _ _ _ _ _ _ _ _ _) | (with_reducible show IterF _ _ _ _ _ _ _ _ _ _ _) | (with_reducible show ForOut _ _ _ _ _ _ _ _ _))); first | (k_unfold; (try dsimp only)) | ((with_reducible refine item_shape ?_); k_dflt (refine item_at (by k_asm) (by k_mem) (by assumption) (by first | (with_reducible exact Int.natCast_nonneg _) | (with_reducible assumption) | decide | omega) (by first | (with_reducible assumption) | decide | omega) ?_)) | ((with_reducible refine for_shape ?_); k_dflt (refine ForF (by k_asm) (by rfl) (by rfl) (by with_unfolding_all passes_own) ?_)) | ((with_reducible show wpAny _ _ (call (Value.builtin "len") [Value.ref _]) _ _ _); k_dflt (refine kst_len (by k_asm) (by k_mem) (by first | assumption | rfl) (by omega) ?_)) | ((with_reducible refine floordiv_int ?kbe ?_ (Or.inl (PyProof.noPylong_of_log2 ?kbp))); (case kbe => first | assumption | omega); (case kbp => assumption)) | walk1 | (dsimp only; walk1) | (leave1; (try dsimp only)) | fail "no step")
      rename_i hx2 FF NN
      have hps := pivotIn_some hsome
      have hpn : p < n := nn_f hWi.1 hps hi
      have hfitP := fit_lt hpn hn63
      obtain ⟨qp, gp, lp, ep⟩ := hWi.row hpn
      obtain ⟨qi, gi, li, ei⟩ := hWi.row hi
      obtain ⟨vp, hvp, hrp⟩ := hRows0.at gp
      obtain ⟨vi, hvi, hri⟩ := hRows0.at gi
      refine If_join (SwapP s g' L' R' (L' + 1) n i ts t oc1 rest0 (if p = i then Mi else swapM Mi i p) (if p = i then ti else -ti)) ?_ ?_
      · have hxp : rs1[((p : Nat) : Int).toNat]? = some vp := by rw [Int.toNat_natCast]; exact hvp
        have hxi : rs1[((i : Nat) : Int).toNat]? = some vi := by rw [Int.toNat_natCast]; exact hvi
        (first | walk1 | (dsimp only; walk1))
        repeat' ((fail_if_success (first | (with_reducible show JoinOut _ _ _) | (with_reducible show wpAny _ _ (setItem (Value.ref _) (Value.int _ _) _) _ _ _) | (with_reducible show wpAny _ _ (exec (Stmt.If (Expr.Compare (Expr.Name (Str.ofString "spot") _) [CmpOp.NotEq] _ _) _ _ _) _) _ _ _) | (with_reducible refine stop_ref ?_) | (with_reducible refine stop_lc ?_) | (with_reducible refine stop_alc ?_) | (with_reducible refine stop_zip ?_) | (with_reducible show IterE1 _ _ _ _ _ _ _ _ _ _ _ _ _ _ _) | (with_reducible show IterA1 _ _ _ _ _ _ _ _ _ _ _ _ _ _ _ _) | (with_reducible show CompOut _ _ _ _ _ _ _ _ _) | (with_reducible show IterF _ _ _ _ _ _ _ _ _ _ _) | (with_reducible show ForOut _ _ _ _ _ _ _ _ _))); first | (k_unfold; (try dsimp only)) | ((with_reducible refine item_shape ?_); k_dflt (refine item_at (by k_asm) (by k_mem) (by assumption) (by first | (with_reducible exact Int.natCast_nonneg _) | (with_reducible assumption) | decide | omega) (by first | (with_reducible assumption) | decide | omega) ?_)) | ((with_reducible refine for_shape ?_); k_dflt (refine ForF (by k_asm) (by rfl) (by rfl) (by with_unfolding_all passes_own) ?_)) | ((with_reducible show wpAny _ _ (call (Value.builtin "len") [Value.ref _]) _ _ _); k_dflt (refine kst_len (by k_asm) (by k_mem) (by first | assumption | rfl) (by omega) ?_)) | ((with_reducible refine floordiv_int ?kbe ?_ (Or.inl (PyProof.noPylong_of_log2 ?kbp))); (case kbe => first | assumption | omega); (case kbp => assumption)) | walk1 | (dsimp only; walk1) | (leave1; (try dsimp only)) | fail "no step")
        · rename_i hne Dp2 hxa lDp hxb FD ND
          refine set_at ((L' + 1, oc1) :: rest0) FD ND (List.mem_cons_of_mem _ List.mem_cons_self) (by first | (with_reducible exact Int.natCast_nonneg _) | omega) (by omega) (by first | (with_reducible assumption) | omega) (fun p hp => ⟨List.mem_cons_of_mem _ (List.mem_cons_of_mem _ hp), ?_⟩) ?_
          · rcases List.mem_cons.mp hp with rfl | hp
            · exact Nat.ne_of_lt hCR
            · exact hoff0 p hp _ List.mem_cons_self
          intro c2 h2 F3 N3
          rw [Int.toNat_natCast] at N3
          repeat' ((fail_if_success (first | (with_reducible show JoinOut _ _ _) | (with_reducible show wpAny _ _ (setItem (Value.ref _) (Value.int _ _) _) _ _ _) | (with_reducible show wpAny _ _ (exec (Stmt.If (Expr.Compare (Expr.Name (Str.ofString "spot") _) [CmpOp.NotEq] _ _) _ _ _) _) _ _ _) | (with_reducible refine stop_ref ?_) | (with_reducible refine stop_lc ?_) | (with_reducible refine stop_alc ?_) | (with_reducible refine stop_zip ?_) | (with_reducible show IterE1 _ _ _ _ _ _ _ _ _ _ _ _ _ _ _) | (with_reducible show IterA1 _ _ _ _ _ _ _ _ _ _ _ _ _ _ _ _) | (with_reducible show CompOut _ _ _ _ _ _ _ _ _) | (with_reducible show IterF _ _ _ _ _ _ _ _ _ _ _) | (with_reducible show ForOut _ _ _ _ _ _ _ _ _))); first | (k_unfold; (try dsimp only)) | ((with_reducible refine item_shape ?_); k_dflt (refine item_at (by k_asm) (by k_mem) (by assumption) (by first | (with_reducible exact Int.natCast_nonneg _) | (with_reducible assumption) | decide | omega) (by first | (with_reducible assumption) | decide | omega) ?_)) | ((with_reducible refine for_shape ?_); k_dflt (refine ForF (by k_asm) (by rfl) (by rfl) (by with_unfolding_all passes_own) ?_)) | ((with_reducible show wpAny _ _ (call (Value.builtin "len") [Value.ref _]) _ _ _); k_dflt (refine kst_len (by k_asm) (by k_mem) (by first | assumption | rfl) (by omega) ?_)) | ((with_reducible refine floordiv_int ?kbe ?_ (Or.inl (PyProof.noPylong_of_log2 ?kbp))); (case kbe => first | assumption | omega); (case kbp => assumption)) | walk1 | (dsimp only; walk1) | (leave1; (try dsimp only)) | fail "no step")
          refine set_at ((L' + 1, oc1) :: rest0) (by k_asm) N3 List.mem_cons_self (by omega) (by rw [List.length_set]; omega) (by omega) (fun p hp => ⟨List.mem_cons_of_mem _ hp, ?_⟩) ?_
          · rcases List.mem_cons.mp hp with rfl | hp
            · exact Nat.ne_of_lt hCR
            · exact hoff0 p hp _ List.mem_cons_self
          intro c3 h3 F4 N4
          rw [Int.toNat_natCast] at N4
          repeat' ((fail_if_success (first | (with_reducible show JoinOut _ _ _) | (with_reducible show wpAny _ _ (setItem (Value.ref _) (Value.int _ _) _) _ _ _) | (with_reducible show wpAny _ _ (exec (Stmt.If (Expr.Compare (Expr.Name (Str.ofString "spot") _) [CmpOp.NotEq] _ _) _ _ _) _) _ _ _) | (with_reducible refine stop_ref ?_) | (with_reducible refine stop_lc ?_) | (with_reducible refine stop_alc ?_) | (with_reducible refine stop_zip ?_) | (with_reducible show IterE1 _ _ _ _ _ _ _ _ _ _ _ _ _ _ _) | (with_reducible show IterA1 _ _ _ _ _ _ _ _ _ _ _ _ _ _ _ _) | (with_reducible show CompOut _ _ _ _ _ _ _ _ _) | (with_reducible show IterF _ _ _ _ _ _ _ _ _ _ _) | (with_reducible show ForOut _ _ _ _ _ _ _ _ _))); first | (k_unfold; (try dsimp only)) | ((with_reducible refine item_shape ?_); k_dflt (refine item_at (by k_asm) (by k_mem) (by assumption) (by first | (with_reducible exact Int.natCast_nonneg _) | (with_reducible assumption) | decide | omega) (by first | (with_reducible assumption) | decide | omega) ?_)) | ((with_reducible refine for_shape ?_); k_dflt (refine ForF (by k_asm) (by rfl) (by rfl) (by with_unfolding_all passes_own) ?_)) | ((with_reducible show wpAny _ _ (call (Value.builtin "len") [Value.ref _]) _ _ _); k_dflt (refine kst_len (by k_asm) (by k_mem) (by first | assumption | rfl) (by omega) ?_)) | ((with_reducible refine floordiv_int ?kbe ?_ (Or.inl (PyProof.noPylong_of_log2 ?kbp))); (case kbe => first | assumption | omega); (case kbp => assumption)) | walk1 | (dsimp only; walk1) | (leave1; (try dsimp only)) | fail "no step")
          rename_i tkA Tn hxc lTn hxd FE NE
          refine ⟨rfl, _, _, (rs1.set i vp).set p vi, c3, (Tn, { cls := .type "tuple", data := .seq #[.int (-ti.num) (tkA + 1), .int (ti.den : Nat) tb] }) :: rest0, Tn, tkA + 1, tb, _, rfl, FE, rfl, rfl, rfl, rfl, News.drop NE ?_, ?_, (Above.refl _).cons (lt_of_all lTn.2.2), ?_, ?_⟩
          · intro p hp
            simp only [List.mem_cons] at hp ⊢
            rcases hp with h | h | h | h
            · exact .inr (.inl h)
            · exact .inr (.inr (.inl h))
            · exact .inl h
            · exact .inr (.inr (.inr h))
          · refine mem_own2 (fun p hp => ?_) (fun p hp => ?_)
            · rcases List.mem_cons.mp hp with rfl | hp
              · exact Ne.symm (Nat.ne_of_lt lTn.1)
              · exact hoff0 p hp _ List.mem_cons_self
            · rcases List.mem_cons.mp hp with rfl | hp
              · exact Ne.symm (Nat.ne_of_lt lTn.2.1)
              · exact hoff0 p hp _ (List.mem_cons_of_mem _ List.mem_cons_self)
          · rw [if_neg (by omega)]
            unfold swapM
            rw [ep, ei]
            exact ((hRows0.mono fun p hp => List.mem_cons_of_mem _ hp).set (hrp.mono fun p hp => List.mem_cons_of_mem _ hp)).set (hri.mono fun p hp => List.mem_cons_of_mem _ hp)
          · rw [if_neg (by omega), Rat.neg_num, Rat.neg_den]
            exact List.mem_cons_self
        · refine ⟨rfl, _, _, rs1, k1, rest0, T, ta, tb, _, rfl, FF, rfl, rfl, rfl, rfl, NN, hoff0, Above.refl _, ?_, ?_⟩
          · rw [if_pos (by omega)]; exact hRows0
          · rw [if_pos (by omega)]; exact hT0
      · have htn := turnM_of (n := n) (t := ti) hsome
        have hW1 : Wide n wd (if p = i then Mi else swapM Mi i p) := by split; exact hWi; exact swapM_wide hWi hi hpn
        have hB1 : Mbits (Bit k i) (if p = i then Mi else swapM Mi i p) := by split; exact hBi; exact swapM_bits hWi hBi hi hpn
        have hQ1 : Qb (Bit k i) (if p = i then ti else -ti) := by split; exact hti; exact hti.neg
        have hne1 : cellM (if p = i then Mi else swapM Mi i p) i i ≠ 0 := by
          split
          · rename_i hpi; rw [← hpi] at hps ⊢; exact hps.2.2
          · rename_i hpi; rw [swapM_cell hWi hi hpn (Ne.symm hpi)]; exact hps.2.2
        intro s' hS'
        refine hide fun H9 hH9 => ?_
        obtain ⟨h2, tk2, rs2, k2, rest2, T2, a2, b2, m2, hs5, F5, f1, f2, f3, f4, N5, hoff2, hA2, hRows2, hT2⟩ := hS'
        generalize (if p = i then Mi else swapM Mi i p) = M1 at *
        generalize (if p = i then ti else -ti) = t1 at *
        clear FF NN hRowsL hRows0 hT0 hoff0
        have F6 := fr_known4 F5 f1 f2 f3 f4
        clear F5
        have hbi : 6 * Bit k i + 1 ≤ 7000 := Nat.le_trans (Bit.mono k (show i + 1 ≤ n from hi)) hB
        have hrl2 : rs2.length = n := hRows2.1.trans hW1.1
        obtain ⟨q1, g1, lq1, eq1⟩ := hW1.row hi
        obtain ⟨v1, hv1, r1, kr1, cs1, rfl, hmr1, hcs1⟩ := hRows2.at g1
        have hcl : i < q1.length := by rw [lq1]; exact Nat.lt_of_lt_of_le hi hn
        obtain ⟨pa, tpa, upa, hca1, hma1⟩ := hcs1.at (List.getElem?_eq_getElem hcl)
        have ecell : cellM M1 i i = q1[i] := cellM_of g1 (List.getElem?_eq_getElem hcl)
        rw [ecell] at hne1
        have hx1 : rs2[((i : Nat) : Int).toNat]? = some (.ref r1) := by rw [Int.toNat_natCast]; exact hv1
        have hx2 : cs1[((i : Nat) : Int).toNat]? = some (.ref pa) := by rw [Int.toNat_natCast]; exact hca1
        have hqp : Qb (Bit k i) q1[i] := hB1.row g1 _ (List.getElem_mem hcl)
        refine hH9 ?_
        clear hH9 H9
        subst hs5
        repeat' ((fail_if_success (first | (with_reducible show JoinOut _ _ _) | (with_reducible show wpAny _ _ (setItem (Value.ref _) (Value.int _ _) _) _ _ _) | (with_reducible show wpAny _ _ (exec (Stmt.If (Expr.Compare (Expr.Name (Str.ofString "spot") _) [CmpOp.NotEq] _ _) _ _ _) _) _ _ _) | (with_reducible refine stop_ref ?_) | (with_reducible refine stop_lc ?_) | (with_reducible refine stop_alc ?_) | (with_reducible refine stop_zip ?_) | (with_reducible show IterE1 _ _ _ _ _ _ _ _ _ _ _ _ _ _ _) | (with_reducible show IterA1 _ _ _ _ _ _ _ _ _ _ _ _ _ _ _ _) | (with_reducible show CompOut _ _ _ _ _ _ _ _ _) | (with_reducible show IterF _ _ _ _ _ _ _ _ _ _ _) | (with_reducible show ForOut _ _ _ _ _ _ _ _ _))); first | (k_unfold; (try dsimp only)) | ((with_reducible refine item_shape ?_); k_dflt (refine item_at (by k_asm) (by k_mem) (by assumption) (by first | (with_reducible exact Int.natCast_nonneg _) | (with_reducible assumption) | decide | omega) (by first | (with_reducible assumption) | decide | omega) ?_)) | ((with_reducible refine for_shape ?_); k_dflt (refine ForF (by k_asm) (by rfl) (by rfl) (by with_unfolding_all passes_own) ?_)) | ((with_reducible show wpAny _ _ (call (Value.builtin "len") [Value.ref _]) _ _ _); k_dflt (refine kst_len (by k_asm) (by k_mem) (by first | assumption | rfl) (by omega) ?_)) | ((with_reducible refine floordiv_int ?kbe ?_ (Or.inl (PyProof.noPylong_of_log2 ?kbp))); (case kbe => first | assumption | omega); (case kbp => assumption)) | walk1 | (dsimp only; walk1) | (leave1; (try dsimp only)) | fail "no step")

        rename_i hP oP FP NP dP
        refine Tell.goQ (C := t_times _ _ _ _ _ _ _ _ _ _ _ _ _ _ _ (by k_mem) (by k_mem) (by assumption) (by assumption) (by omega)) (ret := ?_)
        intro xT tT uT hY tkY lT' FY NY
        (try dsimp only)
        (try k_fold)
        repeat' ((fail_if_success (first | (with_reducible show JoinOut _ _ _) | (with_reducible show wpAny _ _ (setItem (Value.ref _) (Value.int _ _) _) _ _ _) | (with_reducible show wpAny _ _ (exec (Stmt.If (Expr.Compare (Expr.Name (Str.ofString "spot") _) [CmpOp.NotEq] _ _) _ _ _) _) _ _ _) | (with_reducible refine stop_ref ?_) | (with_reducible refine stop_lc ?_) | (with_reducible refine stop_alc ?_) | (with_reducible refine stop_zip ?_) | (with_reducible show IterE1 _ _ _ _ _ _ _ _ _ _ _ _ _ _ _) | (with_reducible show IterA1 _ _ _ _ _ _ _ _ _ _ _ _ _ _ _ _) | (with_reducible show CompOut _ _ _ _ _ _ _ _ _) | (with_reducible show IterF _ _ _ _ _ _ _ _ _ _ _) | (with_reducible show ForOut _ _ _ _ _ _ _ _ _))); first | (k_unfold; (try dsimp only)) | ((with_reducible refine item_shape ?_); k_dflt (refine item_at (by k_asm) (by k_mem) (by assumption) (by first | (with_reducible exact Int.natCast_nonneg _) | (with_reducible assumption) | decide | omega) (by first | (with_reducible assumption) | decide | omega) ?_)) | ((with_reducible refine for_shape ?_); k_dflt (refine ForF (by k_asm) (by rfl) (by rfl) (by with_unfolding_all passes_own) ?_)) | ((with_reducible show wpAny _ _ (call (Value.builtin "len") [Value.ref _]) _ _ _); k_dflt (refine kst_len (by k_asm) (by k_mem) (by first | assumption | rfl) (by omega) ?_)) | ((with_reducible refine floordiv_int ?kbe ?_ (Or.inl (PyProof.noPylong_of_log2 ?kbp))); (case kbe => first | assumption | omega); (case kbp => assumption)) | walk1 | (dsimp only; walk1) | (leave1; (try dsimp only)) | fail "no step")
        rename_i hZ FZ NZ
        (first | walk1 | (dsimp only; walk1))
        k_dflt (refine ListComp1E (by k_asm) (by with_unfolding_all rfl) (by decide) (by rfl) (by decide) (by rfl) ?_)
        repeat' ((fail_if_success (first | (with_reducible show JoinOut _ _ _) | (with_reducible show wpAny _ _ (setItem (Value.ref _) (Value.int _ _) _) _ _ _) | (with_reducible show wpAny _ _ (exec (Stmt.If (Expr.Compare (Expr.Name (Str.ofString "spot") _) [CmpOp.NotEq] _ _) _ _ _) _) _ _ _) | (with_reducible refine stop_ref ?_) | (with_reducible refine stop_lc ?_) | (with_reducible refine stop_alc ?_) | (with_reducible refine stop_zip ?_) | (with_reducible show IterE1 _ _ _ _ _ _ _ _ _ _ _ _ _ _ _) | (with_reducible show IterA1 _ _ _ _ _ _ _ _ _ _ _ _ _ _ _ _) | (with_reducible show CompOut _ _ _ _ _ _ _ _ _) | (with_reducible show IterF _ _ _ _ _ _ _ _ _ _ _) | (with_reducible show ForOut _ _ _ _ _ _ _ _ _))); first | (k_unfold; (try dsimp only)) | ((with_reducible refine item_shape ?_); k_dflt (refine item_at (by k_asm) (by k_mem) (by assumption) (by first | (with_reducible exact Int.natCast_nonneg _) | (with_reducible assumption) | decide | omega) (by first | (with_reducible assumption) | decide | omega) ?_)) | ((with_reducible refine for_shape ?_); k_dflt (refine ForF (by k_asm) (by rfl) (by rfl) (by with_unfolding_all passes_own) ?_)) | ((with_reducible show wpAny _ _ (call (Value.builtin "len") [Value.ref _]) _ _ _); k_dflt (refine kst_len (by k_asm) (by k_mem) (by first | assumption | rfl) (by omega) ?_)) | ((with_reducible refine floordiv_int ?kbe ?_ (Or.inl (PyProof.noPylong_of_log2 ?kbp))); (case kbe => first | assumption | omega); (case kbp => assumption)) | walk1 | (dsimp only; walk1) | (leave1; (try dsimp only)) | fail "no step")
        have hXT := lt_of_all lT'
        refine IterE1.list rfl FZ NZ (List.mem_cons_of_mem _ (List.mem_cons_of_mem _ (List.mem_cons_of_mem _ hmr1))) (by rw [List.size_toArray, hcs1.length, lq1, sizeLine_eq]; exact nn_c hwd) (NormJ _ q1 q1[i]) ⟨[], rfl, (fun _ h => nomatch h), by simpa using Cells.nil⟩ ?_ ?_
        · intro j v ys led₁ own C oC m₃ h tk E' hj hv hJ hC hns hxx FV NV
          refine hide fun H9 hH9 => ?_
          obtain ⟨tl, rfl, ht, hJ⟩ := hJ
          obtain ⟨a, p, t5, u5, rfl, hma, hpi⟩ := hcs1.get (by simpa using hv)
          have hp' := hB1.row g1 p (List.mem_of_getElem? hpi)
          --DEV[
          clear hps gp lp ep gi li ei hvp hrp hvi hri htn hx1 hx2 hsol hBi hWi hRows hT hoff hA hA2 hoff2 sep hown FZ NZ
          refine hH9 ?_
          clear hH9 H9
          repeat' ((fail_if_success (first | (with_reducible show JoinOut _ _ _) | (with_reducible show wpAny _ _ (setItem (Value.ref _) (Value.int _ _) _) _ _ _) | (with_reducible show wpAny _ _ (exec (Stmt.If (Expr.Compare (Expr.Name (Str.ofString "spot") _) [CmpOp.NotEq] _ _) _ _ _) _) _ _ _) | (with_reducible refine stop_ref ?_) | (with_reducible refine stop_lc ?_) | (with_reducible refine stop_alc ?_) | (with_reducible refine stop_zip ?_) | (with_reducible show IterE1 _ _ _ _ _ _ _ _ _ _ _ _ _ _ _) | (with_reducible show IterA1 _ _ _ _ _ _ _ _ _ _ _ _ _ _ _ _) | (with_reducible show CompOut _ _ _ _ _ _ _ _ _) | (with_reducible show IterF _ _ _ _ _ _ _ _ _ _ _) | (with_reducible show ForOut _ _ _ _ _ _ _ _ _))); first | (k_unfold; (try dsimp only)) | ((with_reducible refine item_shape ?_); k_dflt (refine item_at (by k_asm) (by k_mem) (by assumption) (by first | (with_reducible exact Int.natCast_nonneg _) | (with_reducible assumption) | decide | omega) (by first | (with_reducible assumption) | decide | omega) ?_)) | ((with_reducible refine for_shape ?_); k_dflt (refine ForF (by k_asm) (by rfl) (by rfl) (by with_unfolding_all passes_own) ?_)) | ((with_reducible show wpAny _ _ (call (Value.builtin "len") [Value.ref _]) _ _ _); k_dflt (refine kst_len (by k_asm) (by k_mem) (by first | assumption | rfl) (by omega) ?_)) | ((with_reducible refine floordiv_int ?kbe ?_ (Or.inl (PyProof.noPylong_of_log2 ?kbp))); (case kbe => first | assumption | omega); (case kbp => assumption)) | walk1 | (dsimp only; walk1) | (leave1; (try dsimp only)) | fail "no step")
          refine Tell.goQ (C := t_by _ _ _ _ _ _ _ _ _ _ _ _ _ _ _ (by k_mem) (by k_mem) (by assumption) (by assumption) (by omega) (by assumption)) (ret := ?_)
          intro x9 t9 u9 h9 tk9 l9 F9 N9
          (try dsimp only)
          (try k_fold)
          repeat' ((fail_if_success (first | (with_reducible show JoinOut _ _ _) | (with_reducible show wpAny _ _ (setItem (Value.ref _) (Value.int _ _) _) _ _ _) | (with_reducible show wpAny _ _ (exec (Stmt.If (Expr.Compare (Expr.Name (Str.ofString "spot") _) [CmpOp.NotEq] _ _) _ _ _) _) _ _ _) | (with_reducible refine stop_ref ?_) | (with_reducible refine stop_lc ?_) | (with_reducible refine stop_alc ?_) | (with_reducible refine stop_zip ?_) | (with_reducible show IterE1 _ _ _ _ _ _ _ _ _ _ _ _ _ _ _) | (with_reducible show IterA1 _ _ _ _ _ _ _ _ _ _ _ _ _ _ _ _) | (with_reducible show CompOut _ _ _ _ _ _ _ _ _) | (with_reducible show IterF _ _ _ _ _ _ _ _ _ _ _) | (with_reducible show ForOut _ _ _ _ _ _ _ _ _))); first | (k_unfold; (try dsimp only)) | ((with_reducible refine item_shape ?_); k_dflt (refine item_at (by k_asm) (by k_mem) (by assumption) (by first | (with_reducible exact Int.natCast_nonneg _) | (with_reducible assumption) | decide | omega) (by first | (with_reducible assumption) | decide | omega) ?_)) | ((with_reducible refine for_shape ?_); k_dflt (refine ForF (by k_asm) (by rfl) (by rfl) (by with_unfolding_all passes_own) ?_)) | ((with_reducible show wpAny _ _ (call (Value.builtin "len") [Value.ref _]) _ _ _); k_dflt (refine kst_len (by k_asm) (by k_mem) (by first | assumption | rfl) (by omega) ?_)) | ((with_reducible refine floordiv_int ?kbe ?_ (Or.inl (PyProof.noPylong_of_log2 ?kbp))); (case kbe => first | assumption | omega); (case kbp => assumption)) | walk1 | (dsimp only; walk1) | (leave1; (try dsimp only)) | fail "no step")
          refine compOut_one (by k_asm) (by k_asm) (fun p hp => hp) (by assumption) ⟨_ :: tl, rfl, fun p hp q hq => ?_, ?_⟩
          · rcases List.mem_cons.mp hp with rfl | hp
            · exact lt_of_all (by assumption) q (List.mem_append_right _ (List.mem_append_right _ hq))
            · exact ht p hp q hq
          · rw [take_map_succ hpi]
            exact (hJ.mono fun p hp => List.mem_cons_of_mem _ hp).snoc List.mem_cons_self
          --]DEV
        · intro D h tk zs led₁ FV NV hD hlt hlen hJ
          refine hide fun H9 hH9 => ?_
          obtain ⟨tl, rfl, ht, hJ⟩ := hJ
          refine hH9 ?_
          clear hH9 H9
          rw [show cs1.toArray.size = q1.length by rw [List.size_toArray, hcs1.length], List.take_length] at hJ
          clear FZ NZ
          repeat' ((fail_if_success (first | (with_reducible show JoinOut _ _ _) | (with_reducible show wpAny _ _ (setItem (Value.ref _) (Value.int _ _) _) _ _ _) | (with_reducible show wpAny _ _ (exec (Stmt.If (Expr.Compare (Expr.Name (Str.ofString "spot") _) [CmpOp.NotEq] _ _) _ _ _) _) _ _ _) | (with_reducible refine stop_ref ?_) | (with_reducible refine stop_lc ?_) | (with_reducible refine stop_alc ?_) | (with_reducible refine stop_zip ?_) | (with_reducible show IterE1 _ _ _ _ _ _ _ _ _ _ _ _ _ _ _) | (with_reducible show IterA1 _ _ _ _ _ _ _ _ _ _ _ _ _ _ _ _) | (with_reducible show CompOut _ _ _ _ _ _ _ _ _) | (with_reducible show IterF _ _ _ _ _ _ _ _ _ _ _) | (with_reducible show ForOut _ _ _ _ _ _ _ _ _))); first | (k_unfold; (try dsimp only)) | ((with_reducible refine item_shape ?_); k_dflt (refine item_at (by k_asm) (by k_mem) (by assumption) (by first | (with_reducible exact Int.natCast_nonneg _) | (with_reducible assumption) | decide | omega) (by first | (with_reducible assumption) | decide | omega) ?_)) | ((with_reducible refine for_shape ?_); k_dflt (refine ForF (by k_asm) (by rfl) (by rfl) (by with_unfolding_all passes_own) ?_)) | ((with_reducible show wpAny _ _ (call (Value.builtin "len") [Value.ref _]) _ _ _); k_dflt (refine kst_len (by k_asm) (by k_mem) (by first | assumption | rfl) (by omega) ?_)) | ((with_reducible refine floordiv_int ?kbe ?_ (Or.inl (PyProof.noPylong_of_log2 ?kbp))); (case kbe => first | assumption | omega); (case kbp => assumption)) | walk1 | (dsimp only; walk1) | (leave1; (try dsimp only)) | fail "no step")
          have hoff3 : OwnOff ((D, LCg.lst zs) :: (tl ++ (xT, { cls := .type "tuple", data := .seq #[.int (t1 * q1[i]).num tT, .int ((t1 * q1[i]).den : Nat) uT] }) :: rest2)) [R', L' + 1] := by
            refine mem_own2 (fun p hp => ?_) (fun p hp => ?_)
            · rcases List.mem_cons.mp hp with rfl | hp
              · exact Ne.symm (Nat.ne_of_lt (hlt _ (List.mem_cons_of_mem _ List.mem_cons_self)))
              · rcases List.mem_append.mp hp with hp | hp
                · exact Ne.symm (Nat.ne_of_lt (ht p hp _ (List.mem_cons_of_mem _ List.mem_cons_self)))
                · rcases List.mem_cons.mp hp with rfl | hp
                  · exact Ne.symm (Nat.ne_of_lt (hXT _ List.mem_cons_self))
                  · exact hoff2 p hp _ List.mem_cons_self
            · rcases List.mem_cons.mp hp with rfl | hp
              · exact Ne.symm (Nat.ne_of_lt (hlt _ (List.mem_cons_of_mem _ (List.mem_cons_of_mem _ List.mem_cons_self))))
              · rcases List.mem_append.mp hp with hp | hp
                · exact Ne.symm (Nat.ne_of_lt (ht p hp _ (List.mem_cons_of_mem _ (List.mem_cons_of_mem _ List.mem_cons_self))))
                · rcases List.mem_cons.mp hp with rfl | hp
                  · exact Ne.symm (Nat.ne_of_lt (hXT _ (List.mem_cons_of_mem _ List.mem_cons_self)))
                  · exact hoff2 p hp _ (List.mem_cons_of_mem _ List.mem_cons_self)
          have hA3 : Above rest0 ((D, LCg.lst zs) :: (tl ++ (xT, { cls := .type "tuple", data := .seq #[.int (t1 * q1[i]).num tT, .int ((t1 * q1[i]).den : Nat) uT] }) :: rest2)) := by
            refine Above.cons ((hA2.cons (x := xT) fun q hq => hXT q ?_).trans (Above.app fun p hp q hq => ht p hp q ?_)) (fun q hq => hlt q ?_)
            · exact List.mem_cons_of_mem _ (List.mem_cons_of_mem _ (hA2.1 q hq))
            · rcases List.mem_cons.mp hq with rfl | hq
              · exact List.mem_cons_self
              · exact List.mem_cons_of_mem _ (List.mem_cons_of_mem _ (List.mem_cons_of_mem _ hq))
            · exact List.mem_cons_of_mem _ (List.mem_cons_of_mem _ (List.mem_cons_of_mem _ (hA2.1 q hq)))
          have hRows3 : Rows ((D, LCg.lst zs) :: (tl ++ (xT, { cls := .type "tuple", data := .seq #[.int (t1 * q1[i]).num tT, .int ((t1 * q1[i]).den : Nat) uT] }) :: rest2)) (rs2.set i (.ref D)) (normM i M1) := by
            unfold normM
            rw [eq1, ecell]
            exact (hRows2.mono fun p hp => List.mem_cons_of_mem _ (List.mem_append_right _ (List.mem_cons_of_mem _ hp))).set ⟨D, _, zs, rfl, List.mem_cons_self, hJ.mono fun p hp => List.mem_cons_of_mem _ (List.mem_append_left _ hp)⟩
          have hT3 : (xT, ({ cls := .type "tuple", data := .seq #[.int (t1 * q1[i]).num tT, .int ((t1 * q1[i]).den : Nat) uT] } : Obj)) ∈ ((D, LCg.lst zs) :: (tl ++ (xT, { cls := .type "tuple", data := .seq #[.int (t1 * q1[i]).num tT, .int ((t1 * q1[i]).den : Nat) uT] }) :: rest2)) := List.mem_cons_of_mem _ (List.mem_append_right _ List.mem_cons_self)
          refine set_at ((L' + 1, oP) :: (D, LCg.lst zs) :: (tl ++ (xT, { cls := .type "tuple", data := .seq #[.int (t1 * q1[i]).num tT, .int ((t1 * q1[i]).den : Nat) uT] }) :: rest2)) FV NV (l := R') (vs := rs2) (c := k2) ?_ (by first | (with_reducible exact Int.natCast_nonneg _) | omega) (by omega) (by first | (with_reducible assumption) | omega) (fun p hp => ⟨?_, ?_⟩) ?_
          · exact List.mem_cons_of_mem _ (List.mem_append_right _ (List.mem_cons_of_mem _ List.mem_cons_self))
          · simp only [List.mem_cons, List.mem_append] at hp ⊢
            rcases hp with h | h | h | h | h
            · exact .inr (.inr (.inr (.inr (.inl h))))
            · exact .inl h
            · exact .inr (.inl h)
            · exact .inr (.inr (.inl h))
            · exact .inr (.inr (.inr (.inr (.inr h))))
          · rcases List.mem_cons.mp hp with rfl | hp
            · exact Nat.ne_of_lt hCR
            · exact hoff3 p hp _ List.mem_cons_self
          generalize ((D, LCg.lst zs) :: (tl ++ (xT, { cls := .type "tuple", data := .seq #[.int (t1 * q1[i]).num tT, .int ((t1 * q1[i]).den : Nat) uT] }) :: rest2) : List (Addr × Obj)) = rest3 at *
          clear NV hlt hD ht hJ hXT lT' hRows2 hmr1 hcs1 hma1 hT2 hA2 hoff2 hx1 hx2
          intro c5 h5 F7 N7
          rw [Int.toNat_natCast] at N7
          clear FV
          repeat' ((fail_if_success (first | (with_reducible show JoinOut _ _ _) | (with_reducible show wpAny _ _ (setItem (Value.ref _) (Value.int _ _) _) _ _ _) | (with_reducible show wpAny _ _ (exec (Stmt.If (Expr.Compare (Expr.Name (Str.ofString "spot") _) [CmpOp.NotEq] _ _) _ _ _) _) _ _ _) | (with_reducible refine stop_ref ?_) | (with_reducible refine stop_lc ?_) | (with_reducible refine stop_alc ?_) | (with_reducible refine stop_zip ?_) | (with_reducible show IterE1 _ _ _ _ _ _ _ _ _ _ _ _ _ _ _) | (with_reducible show IterA1 _ _ _ _ _ _ _ _ _ _ _ _ _ _ _ _) | (with_reducible show CompOut _ _ _ _ _ _ _ _ _) | (with_reducible show IterF _ _ _ _ _ _ _ _ _ _ _) | (with_reducible show ForOut _ _ _ _ _ _ _ _ _))); first | (k_unfold; (try dsimp only)) | ((with_reducible refine item_shape ?_); k_dflt (refine item_at (by k_asm) (by k_mem) (by assumption) (by first | (with_reducible exact Int.natCast_nonneg _) | (with_reducible assumption) | decide | omega) (by first | (with_reducible assumption) | decide | omega) ?_)) | ((with_reducible refine for_shape ?_); k_dflt (refine ForF (by k_asm) (by rfl) (by rfl) (by with_unfolding_all passes_own) ?_)) | ((with_reducible show wpAny _ _ (call (Value.builtin "len") [Value.ref _]) _ _ _); k_dflt (refine kst_len (by k_asm) (by k_mem) (by first | assumption | rfl) (by omega) ?_)) | ((with_reducible refine floordiv_int ?kbe ?_ (Or.inl (PyProof.noPylong_of_log2 ?kbp))); (case kbe => first | assumption | omega); (case kbp => assumption)) | walk1 | (dsimp only; walk1) | (leave1; (try dsimp only)) | fail "no step")
          rename_i FW NW hV tkV t7 u7 v7 hr2 F8 N8 hk8
          clear FW NW hk8
          obtain ⟨hsm2, hn2⟩ := small_of (a := 0) (b := n) (n := n) (Int.le_refl _) (nn_d hn hwd) (Int.sub_zero _).symm
          have hWn := normM_wide hW1 hi
          have hBn := normM_bits hW1 hB1 hi (show i < wd from Nat.lt_of_lt_of_le hi hn)
          have hb3 : 3 * (Bit k i + Bit k i) ≤ 7000 := nn_e hbi
          refine IterF.hideQ fun Q8 hQ8 => ?_
          refine IterF.range rfl F8 N8 hr2 hsm2 hn2 (ClearedJ rest0 R' (L' + 1) n i (normM i M1) (t1 * q1[i]) t)
            ⟨⟨rest3, _, c5, oP, _, xT, tT, uT, ts, rfl, dP, hoff3, hA3, hRows3, hT3, by with_unfolding_all rfl, by with_unfolding_all rfl, by with_unfolding_all rfl⟩, by with_unfolding_all rfl⟩ ?_ ?_
          · clear F8 N8 hr2 hRows3 hT3 hoff3 hA3
            intro j tj m₃ led₁ own3 h tk hj hJ sep3 hown3 F9 N9
            refine hide fun H9 hH9 => ?_
            obtain ⟨hInv, d4⟩ := hJ
            refine hInv.elim fun rest4 rs4 k4 oc4 vc4 T4 a4 b4 ts4 hled4 hcd4 hoff4 hA4 hRows4 hT4 d1 d2 d3 => ?_
            clear hInv
            rw [hled4] at N9 sep3
            simp only [Int.zero_add] at F9
            have F10 := fr_known4 F9 (a := Str.ofString "rows") (b := Str.ofString "told") (c := Str.ofString "size") (d := Str.ofString "at") (by rw [if_neg (by decide)]; exact d1) (by rw [if_neg (by decide)]; exact d2) (by rw [if_neg (by decide)]; exact d3) (by rw [if_neg (by decide)]; exact d4)
            have N10 : News g' L' h ((R', { cls := .type "list", data := .seq rs4.toArray k4 }) :: (L' + 1, oc4) :: (rest4 ++ own3)) := News.drop N9 fun p hp => by
              simp only [List.mem_cons, List.mem_append] at hp ⊢
              rcases hp with h | h | h | h
              · exact .inr (.inl h)
              · exact .inr (.inr (.inl h))
              · exact .inr (.inr (.inr h))
              · exact .inl h
            have hoff5 : OwnOff (rest4 ++ own3) [R', L' + 1] := Mine.OwnOff.app hoff4 (mem_own2 (fun p hp e => sep3 _ List.mem_cons_self p hp e.symm) (fun p hp e => sep3 _ (List.mem_cons_of_mem _ List.mem_cons_self) p hp e.symm))
            have hWj := clearTo_wide hWn hi (Nat.le_of_lt hj)
            obtain ⟨qj, gj, lj, ej⟩ := hWj.row hj
            obtain ⟨qa, ga, la, ea⟩ := hWj.row hi
            have bj : Qbs (Bit k i + Bit k i) qj := hBn.row ((clearTo_off (.inl (Nat.le_refl j))).symm.trans gj)
            have ba : Qbs (Bit k i + Bit k i) qa := hBn.row ((clearTo_off (.inr rfl)).symm.trans ga)
            have hclj : i < qj.length := by rw [lj]; exact Nat.lt_of_lt_of_le hi hn
            have ecj : cellM (clearTo i (normM i M1) j) j i = qj[i] := cellM_of gj (List.getElem?_eq_getElem hclj)
            have bf : Qb (Bit k i + Bit k i) qj[i] := bj _ (List.getElem_mem hclj)
            have hone : clearTo i (normM i M1) (j + 1) = clearOne i (clearTo i (normM i M1) j) j := rfl
            have hfit2 := fit_lt hj hn63
            clear F9 N9
            generalize clearTo i (normM i M1) j = Mj at *
            generalize hr1 : rest4 ++ own3 = rest5 at N10 hoff5
            have hRows5 : Rows rest5 rs4 Mj := by rw [← hr1]; exact hRows4.mono fun p hp => List.mem_append_left _ hp
            have hT5 : (T4, ({ cls := .type "tuple", data := .seq #[.int (t1 * q1[i]).num a4, .int ((t1 * q1[i]).den : Nat) b4] } : Obj)) ∈ rest5 := by rw [← hr1]; exact List.mem_append_left _ hT4
            have hA5 : Above (rest4 ++ own3) rest5 := by rw [hr1]; exact Above.refl _
            obtain ⟨v8, hvj, rj, krj, csj, rfl, hmrj, hcsj⟩ := hRows5.at gj
            obtain ⟨v9, hva, ra, kra, csa, rfl, hmra, hcsa⟩ := hRows5.at ga
            obtain ⟨pc, tpc, upc, hcj, hmc⟩ := hcsj.at (List.getElem?_eq_getElem hclj)
            have hy1 : rs4[((j : Nat) : Int).toNat]? = some (.ref rj) := by rw [Int.toNat_natCast]; exact hvj
            have hy2 : rs4[((i : Nat) : Int).toNat]? = some (.ref ra) := by rw [Int.toNat_natCast]; exact hva
            have hy3 : csj[((i : Nat) : Int).toNat]? = some (.ref pc) := by rw [Int.toNat_natCast]; exact hcj
            have hrl4 : rs4.length = n := hRows5.1.trans hWj.1
            have hcl4 : csj.length = qj.length := hcsj.length
            have hcl5 : csa.length = qa.length := hcsa.length
            have hsz4 : csj.length ≤ sizeLine := by rw [sizeLine_eq, hcl4, lj]; exact nn_c hwd
            have hLx : Cells ((R', { cls := .type "list", data := .seq rs4.toArray k4 }) :: (L' + 1, oc4) :: rest5) csj qj := hcsj.mono fun p hp => List.mem_cons_of_mem _ (List.mem_cons_of_mem _ hp)
            have hLy : Cells ((R', { cls := .type "list", data := .seq rs4.toArray k4 }) :: (L' + 1, oc4) :: rest5) csa qa := hcsa.mono fun p hp => List.mem_cons_of_mem _ (List.mem_cons_of_mem _ hp)
            clear hRows4 hT4 hoff4 hsol hBi hWi hRows hT hoff hn' hsm hsm2 hn2
            refine hH9 ?_
            clear hH9 H9
            subst hled4
            repeat' ((fail_if_success (first | (with_reducible show JoinOut _ _ _) | (with_reducible show wpAny _ _ (setItem (Value.ref _) (Value.int _ _) _) _ _ _) | (with_reducible show wpAny _ _ (exec (Stmt.If (Expr.Compare (Expr.Name (Str.ofString "spot") _) [CmpOp.NotEq] _ _) _ _ _) _) _ _ _) | (with_reducible refine stop_ref ?_) | (with_reducible refine stop_lc ?_) | (with_reducible refine stop_alc ?_) | (with_reducible refine stop_zip ?_) | (with_reducible show IterE1 _ _ _ _ _ _ _ _ _ _ _ _ _ _ _) | (with_reducible show IterA1 _ _ _ _ _ _ _ _ _ _ _ _ _ _ _ _) | (with_reducible show CompOut _ _ _ _ _ _ _ _ _) | (with_reducible show IterF _ _ _ _ _ _ _ _ _ _ _) | (with_reducible show ForOut _ _ _ _ _ _ _ _ _))); first | (k_unfold; (try dsimp only)) | ((with_reducible refine item_shape ?_); k_dflt (refine item_at (by k_asm) (by k_mem) (by assumption) (by first | (with_reducible exact Int.natCast_nonneg _) | (with_reducible assumption) | decide | omega) (by first | (with_reducible assumption) | decide | omega) ?_)) | ((with_reducible refine for_shape ?_); k_dflt (refine ForF (by k_asm) (by rfl) (by rfl) (by with_unfolding_all passes_own) ?_)) | ((with_reducible show wpAny _ _ (call (Value.builtin "len") [Value.ref _]) _ _ _); k_dflt (refine kst_len (by k_asm) (by k_mem) (by first | assumption | rfl) (by omega) ?_)) | ((with_reducible refine floordiv_int ?kbe ?_ (Or.inl (PyProof.noPylong_of_log2 ?kbp))); (case kbe => first | assumption | omega); (case kbp => assumption)) | walk1 | (dsimp only; walk1) | (leave1; (try dsimp only)) | fail "no step")
            · rename_i hji hnz
              refine Tell.use (by k_asm) (by k_asm) (by k_asm) (by k_asm) (by k_asm) (by first | exact rfl | assumption) (t_cleared w mean mg mb _ qj qa qj[i] rj ra pc krj kra csj csa tpc upc (Bit k i + Bit k i) (by k_mem) (by k_mem) (by k_mem) hLx hLy bj ba bf hb3 hsz4) (by first | decide | exact room1 (by assumption) (by decide) | ktr_room) (by first | decide | exact units1 (by assumption) (by decide) | ktr_units) ?_
              intro r9 led9 h9 tk9 F9 N9 P9
              obtain ⟨tl9, e9, ht9, r9', k9, cs9, e8, hm9, hc9⟩ := P9
              subst e9 e8
              dsimp only
              repeat' ((fail_if_success (first | (with_reducible show JoinOut _ _ _) | (with_reducible show wpAny _ _ (setItem (Value.ref _) (Value.int _ _) _) _ _ _) | (with_reducible show wpAny _ _ (exec (Stmt.If (Expr.Compare (Expr.Name (Str.ofString "spot") _) [CmpOp.NotEq] _ _) _ _ _) _) _ _ _) | (with_reducible refine stop_ref ?_) | (with_reducible refine stop_lc ?_) | (with_reducible refine stop_alc ?_) | (with_reducible refine stop_zip ?_) | (with_reducible show IterE1 _ _ _ _ _ _ _ _ _ _ _ _ _ _ _) | (with_reducible show IterA1 _ _ _ _ _ _ _ _ _ _ _ _ _ _ _ _) | (with_reducible show CompOut _ _ _ _ _ _ _ _ _) | (with_reducible show IterF _ _ _ _ _ _ _ _ _ _ _) | (with_reducible show ForOut _ _ _ _ _ _ _ _ _))); first | (k_unfold; (try dsimp only)) | ((with_reducible refine item_shape ?_); k_dflt (refine item_at (by k_asm) (by k_mem) (by assumption) (by first | (with_reducible exact Int.natCast_nonneg _) | (with_reducible assumption) | decide | omega) (by first | (with_reducible assumption) | decide | omega) ?_)) | ((with_reducible refine for_shape ?_); k_dflt (refine ForF (by k_asm) (by rfl) (by rfl) (by with_unfolding_all passes_own) ?_)) | ((with_reducible show wpAny _ _ (call (Value.builtin "len") [Value.ref _]) _ _ _); k_dflt (refine kst_len (by k_asm) (by k_mem) (by first | assumption | rfl) (by omega) ?_)) | ((with_reducible refine floordiv_int ?kbe ?_ (Or.inl (PyProof.noPylong_of_log2 ?kbp))); (case kbe => first | assumption | omega); (case kbp => assumption)) | walk1 | (dsimp only; walk1) | (leave1; (try dsimp only)) | fail "no step")
              have hoff9 : OwnOff tl9 [R', L' + 1] := mem_own2 (fun p hp => Ne.symm (Nat.ne_of_lt (ht9 p hp _ List.mem_cons_self))) (fun p hp => Ne.symm (Nat.ne_of_lt (ht9 p hp _ (List.mem_cons_of_mem _ List.mem_cons_self))))
              refine set_at ((L' + 1, oc4) :: (tl9 ++ rest5)) F9 N9 (l := R') (vs := rs4) (c := k4) (List.mem_append_right _ List.mem_cons_self) (by first | (with_reducible exact Int.natCast_nonneg _) | omega) (by omega) (by first | (with_reducible assumption) | omega) (fun p hp => ⟨?_, ?_⟩) ?_
              · simp only [List.mem_cons, List.mem_append] at hp ⊢
                rcases hp with h | h | h
                · exact .inr (.inr (.inl h))
                · exact .inl h
                · exact .inr (.inr (.inr h))
              · rcases List.mem_cons.mp hp with rfl | hp
                · exact Nat.ne_of_lt hCR
                · rcases List.mem_append.mp hp with hp | hp
                  · exact hoff9 p hp _ List.mem_cons_self
                  · exact hoff5 p hp _ List.mem_cons_self
              intro c10 h10 F11 N11
              rw [Int.toNat_natCast] at N11
              repeat' ((fail_if_success (first | (with_reducible show JoinOut _ _ _) | (with_reducible show wpAny _ _ (setItem (Value.ref _) (Value.int _ _) _) _ _ _) | (with_reducible show wpAny _ _ (exec (Stmt.If (Expr.Compare (Expr.Name (Str.ofString "spot") _) [CmpOp.NotEq] _ _) _ _ _) _) _ _ _) | (with_reducible refine stop_ref ?_) | (with_reducible refine stop_lc ?_) | (with_reducible refine stop_alc ?_) | (with_reducible refine stop_zip ?_) | (with_reducible show IterE1 _ _ _ _ _ _ _ _ _ _ _ _ _ _ _) | (with_reducible show IterA1 _ _ _ _ _ _ _ _ _ _ _ _ _ _ _ _) | (with_reducible show CompOut _ _ _ _ _ _ _ _ _) | (with_reducible show IterF _ _ _ _ _ _ _ _ _ _ _) | (with_reducible show ForOut _ _ _ _ _ _ _ _ _))); first | (k_unfold; (try dsimp only)) | ((with_reducible refine item_shape ?_); k_dflt (refine item_at (by k_asm) (by k_mem) (by assumption) (by first | (with_reducible exact Int.natCast_nonneg _) | (with_reducible assumption) | decide | omega) (by first | (with_reducible assumption) | decide | omega) ?_)) | ((with_reducible refine for_shape ?_); k_dflt (refine ForF (by k_asm) (by rfl) (by rfl) (by with_unfolding_all passes_own) ?_)) | ((with_reducible show wpAny _ _ (call (Value.builtin "len") [Value.ref _]) _ _ _); k_dflt (refine kst_len (by k_asm) (by k_mem) (by first | assumption | rfl) (by omega) ?_)) | ((with_reducible refine floordiv_int ?kbe ?_ (Or.inl (PyProof.noPylong_of_log2 ?kbp))); (case kbe => first | assumption | omega); (case kbp => assumption)) | walk1 | (dsimp only; walk1) | (leave1; (try dsimp only)) | fail "no step")
              refine Inv.close (led := rest0) (rest := rest4) (own := own3) (rest9 := tl9 ++ rest5) (M' := Mj.set j (List.zipWith (fun p q => p - qj[i] * q) qj qa)) ⟨_, List.mem_cons_self⟩ ⟨_, List.mem_cons_of_mem _ List.mem_cons_self⟩ (fun p hp => List.mem_cons_of_mem _ (List.mem_cons_of_mem _ hp)) hA4 sep3 hown3 (by k_asm) N11 hcd4 (Mine.OwnOff.app hoff9 hoff5) (hA5.trans (Above.app fun p hp q hq => ht9 p hp q (List.mem_cons_of_mem _ (List.mem_cons_of_mem _ hq))))
                ((hRows5.mono fun p hp => List.mem_append_right _ hp).set ⟨r9', k9, cs9, rfl, List.mem_append_left _ hm9, hc9.mono fun p hp => List.mem_append_left _ hp⟩) (List.mem_append_right _ hT5) (by with_unfolding_all rfl) (by with_unfolding_all rfl) (by with_unfolding_all rfl) (fun led₂ hI => ⟨?_, by with_unfolding_all rfl⟩)
              have hcl : clearOne i Mj j = Mj.set j (List.zipWith (fun p q => p - qj[i] * q) qj qa) := by
                unfold clearOne
                rw [if_pos ⟨by omega, by rw [ecj]; exact fun e => hnz (Rat.num_eq_zero.mpr e)⟩, ej, ea, ecj]
              rw [hone, hcl]
              exact hI
            · rename_i hji hnz
              refine Inv.close (led := rest0) (rest := rest4) (own := own3) (rest9 := rest5) (M' := Mj) ⟨_, List.mem_cons_self⟩ ⟨_, List.mem_cons_of_mem _ List.mem_cons_self⟩ (fun p hp => List.mem_cons_of_mem _ (List.mem_cons_of_mem _ hp)) hA4 sep3 hown3 (by k_asm) N10 hcd4 hoff5 hA5 hRows5 hT5 (by with_unfolding_all rfl) (by with_unfolding_all rfl) (by with_unfolding_all rfl) (fun led₂ hI => ⟨?_, by with_unfolding_all rfl⟩)
              rw [hone, show clearOne i Mj j = Mj from if_neg (fun h => h.2 (by rw [ecj]; exact Rat.num_eq_zero.mp hnz))]
              exact hI
            · rename_i hji
              refine Inv.close (led := rest0) (rest := rest4) (own := own3) (rest9 := rest5) (M' := Mj) ⟨_, List.mem_cons_self⟩ ⟨_, List.mem_cons_of_mem _ List.mem_cons_self⟩ (fun p hp => List.mem_cons_of_mem _ (List.mem_cons_of_mem _ hp)) hA4 sep3 hown3 (by k_asm) N10 hcd4 hoff5 hA5 hRows5 hT5 (by with_unfolding_all rfl) (by with_unfolding_all rfl) (by with_unfolding_all rfl) (fun led₂ hI => ⟨?_, by with_unfolding_all rfl⟩)
              rw [hone, show clearOne i Mj j = Mj from if_neg (fun h => h.1 (by omega))]
              exact hI
          · intro h tk m₃ led₁ hJ F9 N9
            refine hide fun H9 hH9 => ?_
            obtain ⟨hInv, d4⟩ := hJ
            refine hInv.elim fun rest4 rs4 k4 oc4 vc4 T4 a4 b4 ts4 hled4 hcd4 hoff4 hA4 hRows4 hT4 d1 d2 d3 => ?_
            clear hInv
            subst hled4
            rw [ecell] at htn
            have hts := turnM_some hWi hBi hti hi (show i < wd from Nat.lt_of_lt_of_le hi hn) htn
            clear F8 N8 hr2
            refine hH9 ?_
            clear hH9 H9
            refine hQ8 _ _ ?_
            (try dsimp only)
            repeat' ((fail_if_success (first | (with_reducible show JoinOut _ _ _) | (with_reducible show wpAny _ _ (setItem (Value.ref _) (Value.int _ _) _) _ _ _) | (with_reducible show wpAny _ _ (exec (Stmt.If (Expr.Compare (Expr.Name (Str.ofString "spot") _) [CmpOp.NotEq] _ _) _ _ _) _) _ _ _) | (with_reducible refine stop_ref ?_) | (with_reducible refine stop_lc ?_) | (with_reducible refine stop_alc ?_) | (with_reducible refine stop_zip ?_) | (with_reducible show IterE1 _ _ _ _ _ _ _ _ _ _ _ _ _ _ _) | (with_reducible show IterA1 _ _ _ _ _ _ _ _ _ _ _ _ _ _ _ _) | (with_reducible show CompOut _ _ _ _ _ _ _ _ _) | (with_reducible show IterF _ _ _ _ _ _ _ _ _ _ _) | (with_reducible show ForOut _ _ _ _ _ _ _ _ _))); first | (k_unfold; (try dsimp only)) | ((with_reducible refine item_shape ?_); k_dflt (refine item_at (by k_asm) (by k_mem) (by assumption) (by first | (with_reducible exact Int.natCast_nonneg _) | (with_reducible assumption) | decide | omega) (by first | (with_reducible assumption) | decide | omega) ?_)) | ((with_reducible refine for_shape ?_); k_dflt (refine ForF (by k_asm) (by rfl) (by rfl) (by with_unfolding_all passes_own) ?_)) | ((with_reducible show wpAny _ _ (call (Value.builtin "len") [Value.ref _]) _ _ _); k_dflt (refine kst_len (by k_asm) (by k_mem) (by first | assumption | rfl) (by omega) ?_)) | ((with_reducible refine floordiv_int ?kbe ?_ (Or.inl (PyProof.noPylong_of_log2 ?kbp))); (case kbe => first | assumption | omega); (case kbp => assumption)) | walk1 | (dsimp only; walk1) | (leave1; (try dsimp only)) | fail "no step")
            refine Inv.close (led := led) (rest := rest) (own := own) (rest9 := rest4) (M' := clearTo i (normM i M1) n) (t' := t1 * q1[i]) ⟨_, List.mem_cons_self⟩ ⟨_, List.mem_cons_of_mem _ List.mem_cons_self⟩ (fun p hp => List.mem_cons_of_mem _ (List.mem_cons_of_mem _ hp)) hA sep hown F9 N9 hcd4 hoff4 (by rw [hr0]; exact hA4) hRows4 hT4 d1 d2 d3 (fun led₂ hI => ⟨_, _, hI, hts.1, hts.2.1, hts.2.2, (solveM_next hi htn).symm.trans hsol⟩)
  · intro h tk m₁ led₁ hJ F1 N1
    refine hide fun H9 hH9 => ?_
    obtain ⟨Mi, ti, hInv, hWi, hBi, hti, hsol⟩ := hJ
    refine hInv.elim fun rest rs1 k1 oc1 vc T ta tb ts hled hcd hoff hA hRows hT e1 e2 e3 => ?_
    clear hInv
    subst hled
    rw [Nat.sub_self] at hsol
    have F2 := fr_known (fr_known F1 e2) (x := Str.ofString "rows") (v := .ref R') (by rw [if_neg (by decide)]; exact e1)
    clear F1 F0 N0 hr
    refine hH9 ?_
    clear hH9 H9
    refine hQ9 _ _ ?_
    (try dsimp only)
    repeat' ((fail_if_success (first | (with_reducible show JoinOut _ _ _) | (with_reducible show wpAny _ _ (setItem (Value.ref _) (Value.int _ _) _) _ _ _) | (with_reducible show wpAny _ _ (exec (Stmt.If (Expr.Compare (Expr.Name (Str.ofString "spot") _) [CmpOp.NotEq] _ _) _ _ _) _) _ _ _) | (with_reducible refine stop_ref ?_) | (with_reducible refine stop_lc ?_) | (with_reducible refine stop_alc ?_) | (with_reducible refine stop_zip ?_) | (with_reducible show IterE1 _ _ _ _ _ _ _ _ _ _ _ _ _ _ _) | (with_reducible show IterA1 _ _ _ _ _ _ _ _ _ _ _ _ _ _ _ _) | (with_reducible show CompOut _ _ _ _ _ _ _ _ _) | (with_reducible show IterF _ _ _ _ _ _ _ _ _ _ _) | (with_reducible show ForOut _ _ _ _ _ _ _ _ _))); first | (k_unfold; (try dsimp only)) | ((with_reducible refine item_shape ?_); k_dflt (refine item_at (by k_asm) (by k_mem) (by assumption) (by first | (with_reducible exact Int.natCast_nonneg _) | (with_reducible assumption) | decide | omega) (by first | (with_reducible assumption) | decide | omega) ?_)) | ((with_reducible refine for_shape ?_); k_dflt (refine ForF (by k_asm) (by rfl) (by rfl) (by with_unfolding_all passes_own) ?_)) | ((with_reducible show wpAny _ _ (call (Value.builtin "len") [Value.ref _]) _ _ _); k_dflt (refine kst_len (by k_asm) (by k_mem) (by first | assumption | rfl) (by omega) ?_)) | ((with_reducible refine floordiv_int ?kbe ?_ (Or.inl (PyProof.noPylong_of_log2 ?kbp))); (case kbe => first | assumption | omega); (case kbp => assumption)) | walk1 | (dsimp only; walk1) | (leave1; (try dsimp only)) | fail "no step")
    rename_i Xz hX FX NX lX kF kN tc kx
    have hS : solveM n n 0 M 1 = (Mi, ti) := hsol.symm
    obtain ⟨led', hE, hs1, hs2⟩ := Ext.of_above (led := led) (rest := (Xz, { cls := .type "tuple", data := .seq #[.ref R', .ref T] }) :: (R', { cls := .type "list", data := .seq rs1.toArray k1 }) :: (L' + 1, oc1) :: rest)
      (((hA.cons (fun q hq => Nat.lt_succ_of_lt (l1 q hq))).cons ltR).cons (fun q hq => lt_of_all lX.2.2 q (hA.1 q hq)))
    refine hret _ led' _ _ kF (News.drop kN fun p hp => hs1 p hp) ?_
    simp only [hS]
    exact ⟨hE, Xz, R', k1, T, rs1, ta, tb, rfl, hs2 _ List.mem_cons_self, hs2 _ (List.mem_cons_of_mem _ List.mem_cons_self), hRows.mono fun p hp => hs2 _ (List.mem_cons_of_mem _ (List.mem_cons_of_mem _ (List.mem_cons_of_mem _ hp))), hs2 _ (List.mem_cons_of_mem _ (List.mem_cons_of_mem _ (List.mem_cons_of_mem _ hT)))⟩
end
section
theorem t_figures (w : World) (mean : ExcName → Option Value) (mg mb : Str → Option Value) (led : List (Addr × Obj)) (n : Nat) (t : Tok) :
    Tell w mean mg mb 44 1 led [.int n t] (fun led' r => led' = led ∧ ∃ F u, r = .int F u ∧ IsFig n F) := by
  intro dp un gd cn cs a₁ ccd cl outer A₀ base h₀ L m s Q E B F X N T hk hd hu hret
  refine wpAny_call ?_
  k_dflt (refine' code_def (binds := [(Str.ofString "number", .int n t)]) ?k1 ?k2 ?k3 ?k4 ?k5 ?kA ?kF ?kK ?k6 ?k7 ?k8 ?k9 ?kB ?_ ?c2 ?c3 ?c4 ?c5; (case kA => exact rfl); (case kF => exact rfl); (case kK => first | exact rfl | assumption); (case k1 => k_asm); (case k2 => k_asm); (case k3 => k_asm); (case k4 => k_asm); (case k5 => k_asm); (case k6 => k_is); (case k7 => k_is); (case k8 => ktr_room); (case k9 => exact BindsTo.of_eq rfl); (case c5 => decide); (case kB => exact locs rfl); (case c2 => exact rfl); (case c3 => exact rfl); (case c4 => exact rfl); k_whole; intro g' L' h' FG' F' N' B' X' T'; (try dsimp only); (try k_fold))
  k_with "exec While Compare cons nil" => k_while (fun _ x y => FigInv n x y) (fun _ _ y => ((n : Int) + 1 - y).toNat) "many" "bound"
  k_with "state" => first | exact fig_start n | exact fig_turn (by assumption) (by assumption)
  k_with "measure" => exact fig_less (by assumption) (by assumption)
  k_steps
  refine hret _ _ _ _ (by k_asm) (News.drop (by k_asm) (by kcj_all)) ⟨rfl, _, _, rfl, fig_end (by assumption) (by assumption)⟩
end
theorem t_rounded (w : World) (mean : ExcName → Option Value) (mg mb : Str → Option Value) (led : List (Addr × Obj)) (b p : Nat) (t u : Tok) (hb : 1 ≤ b) (hp : 1 ≤ p) (hp2 : p ≤ 50) :
    Tell w mean mg mb 51 3 led [.int ((b * 10 ^ p : Nat) : Int) t, .int (p : Int) u] (fun led' r => led' = led ∧ ∃ v, r = .int b v) := by
  intro dp un gd cn cs a₁ ccd cl outer A₀ base h₀ L m s Q E B F X N T hk hd hu hret
  have hd1 : ((b * 10 ^ p : Nat) : Int).fdiv (10 ^ (p : Int).toNat) = b := by rw [Int.toNat_natCast]; exact cut_div
  have hd2 : ((b * 10 ^ p : Nat) : Int).fmod (10 ^ (p : Int).toNat) = 0 := by rw [Int.toNat_natCast]; exact cut_mod
  have hfs : ∀ F, IsFig (b * 10 ^ p) F → (p : Int) < F := fun F hF => fig_above hb hF
  have hlog : ((10 : Int) ^ (p : Int).toNat).natAbs.log2 < 9000 := by rw [Int.toNat_natCast]; exact log_ten hp2
  have hpos : (0 : Int) < 10 ^ (p : Int).toNat := Int.pow_pos (by decide)
  have hne := Int.ne_of_gt hpos
  generalize b * 10 ^ p = N0 at *
  refine wpAny_call ?_
  k_dflt (refine' code_def (binds := [(Str.ofString "number", .int N0 t), (Str.ofString "places", .int p u)]) ?k1 ?k2 ?k3 ?k4 ?k5 ?kA ?kF ?kK ?k6 ?k7 ?k8 ?k9 ?kB ?_ ?c2 ?c3 ?c4 ?c5; (case kA => exact rfl); (case kF => exact rfl); (case kK => first | exact rfl | assumption); (case k1 => k_asm); (case k2 => k_asm); (case k3 => k_asm); (case k4 => k_asm); (case k5 => k_asm); (case k6 => k_is); (case k7 => k_is); (case k8 => ktr_room); (case k9 => exact BindsTo.of_eq rfl); (case c5 => decide); (case kB => exact locs rfl); (case c2 => exact rfl); (case c3 => exact rfl); (case c4 => exact rfl); k_whole; intro g' L' h' FG' F' N' B' X' T'; (try dsimp only); (try k_fold))
  repeat' ((fail_if_success (first | (with_reducible refine stop_ref ?_) | (with_reducible refine stop_lc ?_) | (with_reducible refine stop_alc ?_) | (with_reducible refine stop_zip ?_) | (with_reducible show IterE1 _ _ _ _ _ _ _ _ _ _ _ _ _ _ _) | (with_reducible show IterA1 _ _ _ _ _ _ _ _ _ _ _ _ _ _ _ _) | (with_reducible show CompOut _ _ _ _ _ _ _ _ _) | (with_reducible show IterF _ _ _ _ _ _ _ _ _ _ _) | (with_reducible show ForOut _ _ _ _ _ _ _ _ _))); first | (k_unfold; (try dsimp only)) | ((with_reducible refine item_shape ?_); k_dflt (refine item_at (by k_asm) (by k_mem) (by assumption) (by first | (with_reducible exact Int.natCast_nonneg _) | (with_reducible assumption) | decide | omega) (by first | (with_reducible assumption) | decide | omega) ?_)) | ((with_reducible refine for_shape ?_); k_dflt (refine ForF (by k_asm) (by rfl) (by rfl) (by with_unfolding_all passes_own) ?_)) | ((with_reducible show wpAny _ _ (call (Value.builtin "len") [Value.ref _]) _ _ _); k_dflt (refine kst_len (by k_asm) (by k_mem) (by first | assumption | rfl) (by omega) ?_)) | ((with_reducible refine floordiv_int ?kbe ?_ (Or.inl (PyProof.noPylong_of_log2 ?kbp))); (case kbe => first | assumption | omega); (case kbp => assumption)) | walk1 | (dsimp only; walk1) | (leave1; (try dsimp only)) | fail "no step")
  refine Tell.goF (C := t_figures _ _ _ _ _ _ _) (ret := ?_)
  intro f9 t9 h9 tk9 hf9 F9 N9
  (try dsimp only)
  (try k_fold)
  repeat' ((fail_if_success (first | (with_reducible refine stop_ref ?_) | (with_reducible refine stop_lc ?_) | (with_reducible refine stop_alc ?_) | (with_reducible refine stop_zip ?_) | (with_reducible show IterE1 _ _ _ _ _ _ _ _ _ _ _ _ _ _ _) | (with_reducible show IterA1 _ _ _ _ _ _ _ _ _ _ _ _ _ _ _ _) | (with_reducible show CompOut _ _ _ _ _ _ _ _ _) | (with_reducible show IterF _ _ _ _ _ _ _ _ _ _ _) | (with_reducible show ForOut _ _ _ _ _ _ _ _ _))); first | (k_unfold; (try dsimp only)) | ((with_reducible refine item_shape ?_); k_dflt (refine item_at (by k_asm) (by k_mem) (by assumption) (by first | (with_reducible exact Int.natCast_nonneg _) | (with_reducible assumption) | decide | omega) (by first | (with_reducible assumption) | decide | omega) ?_)) | ((with_reducible refine for_shape ?_); k_dflt (refine ForF (by k_asm) (by rfl) (by rfl) (by with_unfolding_all passes_own) ?_)) | ((with_reducible show wpAny _ _ (call (Value.builtin "len") [Value.ref _]) _ _ _); k_dflt (refine kst_len (by k_asm) (by k_mem) (by first | assumption | rfl) (by omega) ?_)) | ((with_reducible refine floordiv_int ?kbe ?_ (Or.inl (PyProof.noPylong_of_log2 ?kbp))); (case kbe => first | assumption | omega); (case kbp => assumption)) | walk1 | (dsimp only; walk1) | (leave1; (try dsimp only)) | fail "no step")
  all_goals first
    | exact absurd (show (10 : Int) ^ (p : Int).toNat < 2 * (N0 : Int).fmod (10 ^ (p : Int).toNat) by assumption) (by rw [hd2]; omega)
    | exact absurd (show 2 * (N0 : Int).fmod (10 ^ (p : Int).toNat) = (10 : Int) ^ (p : Int).toNat by assumption) (by rw [hd2]; omega)
    | (rw [hd1]; exact hret _ _ _ _ (by k_asm) (News.drop (by k_asm) fun p hp => List.mem_cons_of_mem _ hp) ⟨rfl, _, rfl⟩)
    | (exfalso; have hq9 := hfs _ hf9; omega)
section
theorem t_made (w : World) (mean : ExcName → Option Value) (mg mb : Str → Option Value) (led : List (Addr × Obj)) (d j : Nat) (c e : Int) (t u v : Tok) (hc : c.natAbs = d * 10 ^ j * 10 ^ 5) (hF : IsFig (d * 10 ^ j) 9) (hd1 : 1 ≤ d) (hj : j ≤ 8) (he : e = -(j : Int) - 5) :
    Tell w mean mg mb 58 4 led [.int c t, .int e u, .int 9 v] (fun led' r => ∃ x a i t1 t2, r = .ref x ∧ AllLt x led ∧ led' = (x, { cls := .type "tuple", data := .seq #[.int (if c < 0 then -((a : Nat) : Int) else (a : Int)) t1, .int (i : Nat) t2] }) :: led ∧ a * 10 ^ i = d ∧ i ≤ 9) := by
  intro dp un gd cn cs a₁ ccd cl outer A₀ base h₀ L m s Q E B F X N T hk hd hu hret
  have hlt : d * 10 ^ j < 10 ^ 9 := hF.2.1
  have hpos : 1 ≤ d * 10 ^ j := Nat.mul_pos hd1 (Nat.pow_pos (by decide))
  have hfs : ∀ F, IsFig (d * 10 ^ j * 10 ^ 5) F → F = 14 := fun F h => fig_unique h (fig_shift hF hpos 5)
  have hc' : (if c < 0 then -c else c) = ((d * 10 ^ j * 10 ^ 5 : Nat) : Int) := by rw [← hc]; split <;> omega
  have hst := fun x y => strip_end (d := d) (j := j) (e := -(j : Int)) (x := x) (y := y)
  have hs0 := strip_start (e := -(j : Int)) hpos
  generalize d * 10 ^ j = N1 at *
  refine wpAny_call ?_
  k_dflt (refine' code_def (binds := [(Str.ofString "coefficient", .int c t), (Str.ofString "exponent", .int e u), (Str.ofString "digits", .int 9 v)]) ?k1 ?k2 ?k3 ?k4 ?k5 ?kA ?kF ?kK ?k6 ?k7 ?k8 ?k9 ?kB ?_ ?c2 ?c3 ?c4 ?c5; (case kA => exact rfl); (case kF => exact rfl); (case kK => first | exact rfl | assumption); (case k1 => k_asm); (case k2 => k_asm); (case k3 => k_asm); (case k4 => k_asm); (case k5 => k_asm); (case k6 => k_is); (case k7 => k_is); (case k8 => ktr_room); (case k9 => exact BindsTo.of_eq rfl); (case c5 => decide); (case kB => exact locs rfl); (case c2 => exact rfl); (case c3 => exact rfl); (case c4 => exact rfl); k_whole; intro g' L' h' FG' F' N' B' X' T'; (try dsimp only); (try k_fold))
  repeat' ((fail_if_success (first | (with_reducible refine stop_ref ?_) | (with_reducible refine stop_lc ?_) | (with_reducible refine stop_alc ?_) | (with_reducible refine stop_zip ?_) | (with_reducible show IterE1 _ _ _ _ _ _ _ _ _ _ _ _ _ _ _) | (with_reducible show IterA1 _ _ _ _ _ _ _ _ _ _ _ _ _ _ _ _) | (with_reducible show CompOut _ _ _ _ _ _ _ _ _) | (with_reducible show IterF _ _ _ _ _ _ _ _ _ _ _) | (with_reducible show ForOut _ _ _ _ _ _ _ _ _))); first | (k_unfold; (try dsimp only)) | ((with_reducible refine item_shape ?_); k_dflt (refine item_at (by k_asm) (by k_mem) (by assumption) (by first | (with_reducible exact Int.natCast_nonneg _) | (with_reducible assumption) | decide | omega) (by first | (with_reducible assumption) | decide | omega) ?_)) | ((with_reducible refine for_shape ?_); k_dflt (refine ForF (by k_asm) (by rfl) (by rfl) (by with_unfolding_all passes_own) ?_)) | ((with_reducible show wpAny _ _ (call (Value.builtin "len") [Value.ref _]) _ _ _); k_dflt (refine kst_len (by k_asm) (by k_mem) (by first | assumption | rfl) (by omega) ?_)) | ((with_reducible refine floordiv_int ?kbe ?_ (Or.inl (PyProof.noPylong_of_log2 ?kbp))); (case kbe => first | assumption | omega); (case kbp => assumption)) | walk1 | (dsimp only; walk1) | (leave1; (try dsimp only)) | fail "no step")
  rename_i FF NN
  simp only [hc'] at FF ⊢
  refine Tell.goF (C := t_figures _ _ _ _ _ _ _) (ret := ?_)
  intro f8 t8 h8 tk8 hf8 F8 N8
  have e8 := hfs _ hf8
  subst e8
  clear hf8
  (try dsimp only)
  (try k_fold)
  repeat' ((fail_if_success (first | (with_reducible refine stop_ref ?_) | (with_reducible refine stop_lc ?_) | (with_reducible refine stop_alc ?_) | (with_reducible refine stop_zip ?_) | (with_reducible show IterE1 _ _ _ _ _ _ _ _ _ _ _ _ _ _ _) | (with_reducible show IterA1 _ _ _ _ _ _ _ _ _ _ _ _ _ _ _ _) | (with_reducible show CompOut _ _ _ _ _ _ _ _ _) | (with_reducible show IterF _ _ _ _ _ _ _ _ _ _ _) | (with_reducible show ForOut _ _ _ _ _ _ _ _ _))); first | (k_unfold; (try dsimp only)) | ((with_reducible refine item_shape ?_); k_dflt (refine item_at (by k_asm) (by k_mem) (by assumption) (by first | (with_reducible exact Int.natCast_nonneg _) | (with_reducible assumption) | decide | omega) (by first | (with_reducible assumption) | decide | omega) ?_)) | ((with_reducible refine for_shape ?_); k_dflt (refine ForF (by k_asm) (by rfl) (by rfl) (by with_unfolding_all passes_own) ?_)) | ((with_reducible show wpAny _ _ (call (Value.builtin "len") [Value.ref _]) _ _ _); k_dflt (refine kst_len (by k_asm) (by k_mem) (by first | assumption | rfl) (by omega) ?_)) | ((with_reducible refine floordiv_int ?kbe ?_ (Or.inl (PyProof.noPylong_of_log2 ?kbp))); (case kbe => first | assumption | omega); (case kbp => assumption)) | walk1 | (dsimp only; walk1) | (leave1; (try dsimp only)) | fail "no step")
  refine Tell.goI (C := t_rounded w mean mg mb _ N1 5 _ _ hpos (by decide) (by decide)) (ret := ?_)
  intro t9 h9 tk9 F9 N9
  (try dsimp only)
  k_with "exec While Compare cons nil" => k_while (fun _ x y => Strip N1 (-(j : Int)) x y) (fun _ x _ => x.toNat) "size" "exponent"
  k_with "state" => first | exact strip_start' hpos (by omega) | exact strip_turn (by assumption) (by assumption)
  k_with "measure" => exact strip_less (by assumption)
  repeat' ((fail_if_success (first | (with_reducible refine stop_ref ?_) | (with_reducible refine stop_lc ?_) | (with_reducible refine stop_alc ?_) | (with_reducible refine stop_zip ?_) | (with_reducible show IterE1 _ _ _ _ _ _ _ _ _ _ _ _ _ _ _) | (with_reducible show IterA1 _ _ _ _ _ _ _ _ _ _ _ _ _ _ _ _) | (with_reducible show CompOut _ _ _ _ _ _ _ _ _) | (with_reducible show IterF _ _ _ _ _ _ _ _ _ _ _) | (with_reducible show ForOut _ _ _ _ _ _ _ _ _))); first | (k_unfold; (try dsimp only)) | ((with_reducible refine item_shape ?_); k_dflt (refine item_at (by k_asm) (by k_mem) (by assumption) (by first | (with_reducible exact Int.natCast_nonneg _) | (with_reducible assumption) | decide | omega) (by first | (with_reducible assumption) | decide | omega) ?_)) | ((with_reducible refine for_shape ?_); k_dflt (refine ForF (by k_asm) (by rfl) (by rfl) (by with_unfolding_all passes_own) ?_)) | ((with_reducible show wpAny _ _ (call (Value.builtin "len") [Value.ref _]) _ _ _); k_dflt (refine kst_len (by k_asm) (by k_mem) (by first | assumption | rfl) (by omega) ?_)) | ((with_reducible refine floordiv_int ?kbe ?_ (Or.inl (PyProof.noPylong_of_log2 ?kbp))); (case kbe => first | assumption | omega); (case kbp => assumption)) | walk1 | (dsimp only; walk1) | (leave1; (try dsimp only)) | fail "no step")
  · exact absurd (show ((N1 : Nat) : Int) = 0 by assumption) (by omega)
  · rename_i kx
    refine hide fun H9 hH9 => ?_
    obtain ⟨a, i, ea, ei, hai, ha, hal, hi⟩ := hst _ _ kInv rfl kx hd1 hlt
    subst ea ei
    refine hH9 ?_
    clear hH9 H9
    have hb9 : ∀ F, IsFig a F → 1 ≤ F ∧ F ≤ 9 := fun F hF => ⟨hF.1, fig_le hF hal (by decide)⟩
    refine Tell.goF (C := t_figures _ _ _ _ _ _ _) (ret := ?_)
    intro f7 t7 h7 tk7 hf7 F7 N7
    have b7 := hb9 _ hf7
    (try dsimp only)
    (try k_fold)
    repeat' ((fail_if_success (first | (with_reducible refine stop_ref ?_) | (with_reducible refine stop_lc ?_) | (with_reducible refine stop_alc ?_) | (with_reducible refine stop_zip ?_) | (with_reducible show IterE1 _ _ _ _ _ _ _ _ _ _ _ _ _ _ _) | (with_reducible show IterA1 _ _ _ _ _ _ _ _ _ _ _ _ _ _ _ _) | (with_reducible show CompOut _ _ _ _ _ _ _ _ _) | (with_reducible show IterF _ _ _ _ _ _ _ _ _ _ _) | (with_reducible show ForOut _ _ _ _ _ _ _ _ _))); first | (k_unfold; (try dsimp only)) | ((with_reducible refine item_shape ?_); k_dflt (refine item_at (by k_asm) (by k_mem) (by assumption) (by first | (with_reducible exact Int.natCast_nonneg _) | (with_reducible assumption) | decide | omega) (by first | (with_reducible assumption) | decide | omega) ?_)) | ((with_reducible refine for_shape ?_); k_dflt (refine ForF (by k_asm) (by rfl) (by rfl) (by with_unfolding_all passes_own) ?_)) | ((with_reducible show wpAny _ _ (call (Value.builtin "len") [Value.ref _]) _ _ _); k_dflt (refine kst_len (by k_asm) (by k_mem) (by first | assumption | rfl) (by omega) ?_)) | ((with_reducible refine floordiv_int ?kbe ?_ (Or.inl (PyProof.noPylong_of_log2 ?kbp))); (case kbe => first | assumption | omega); (case kbp => assumption)) | walk1 | (dsimp only; walk1) | (leave1; (try dsimp only)) | fail "no step")
    · rename_i hcl D h4 F2 N2 l2 kF kN tc kx
      have key : (if c < 0 then -((a : Nat) : Int) else (a : Int)) = -(a : Int) := if_pos hcl
      rw [← key] at kN
      exact hret _ _ _ _ kF (News.keep1 kN) ⟨_, a, i, _, _, rfl, l2.2, rfl, hai, hi⟩
    · rename_i hcl D h4 F2 N2 l2 kF kN tc kx
      have key : (if c < 0 then -((a : Nat) : Int) else (a : Int)) = (a : Int) := if_neg hcl
      rw [← key] at kN
      exact hret _ _ _ _ kF (News.keep1 kN) ⟨_, a, i, _, _, rfl, l2.2, rfl, hai, hi⟩
end
theorem t_figuresZ (w : World) (mean : ExcName → Option Value) (mg mb : Str → Option Value) (led : List (Addr × Obj)) (z : Int) (t : Tok) (hz : 0 ≤ z) :
    Tell w mean mg mb 44 1 led [.int z t] (fun led' r => led' = led ∧ ∃ F u, r = .int F u ∧ IsFig z.toNat F) := by
  obtain ⟨n, rfl⟩ := Int.eq_ofNat_of_zero_le hz
  exact t_figures w mean mg mb led n t
theorem t_made0 (w : World) (mean : ExcName → Option Value) (mg mb : Str → Option Value) (led : List (Addr × Obj)) (e : Int) (t u v : Tok) :
    Tell w mean mg mb 58 4 led [.int 0 t, .int e u, .int 9 v] (fun led' r => ∃ x t1 t2, r = .ref x ∧ AllLt x led ∧ led' = (x, { cls := .type "tuple", data := .seq #[.int 0 t1, .int 0 t2] }) :: led) := by
  intro dp un gd cn cs a₁ ccd cl outer A₀ base h₀ L m s Q E B F X N T hk hd hu hret
  have hfs : ∀ F, IsFig (0 : Int).toNat F → F = 1 := fun F h => fig_unique h fig_zero
  refine wpAny_call ?_
  k_dflt (refine' code_def (binds := [(Str.ofString "coefficient", .int 0 t), (Str.ofString "exponent", .int e u), (Str.ofString "digits", .int 9 v)]) ?k1 ?k2 ?k3 ?k4 ?k5 ?kA ?kF ?kK ?k6 ?k7 ?k8 ?k9 ?kB ?_ ?c2 ?c3 ?c4 ?c5; (case kA => exact rfl); (case kF => exact rfl); (case kK => first | exact rfl | assumption); (case k1 => k_asm); (case k2 => k_asm); (case k3 => k_asm); (case k4 => k_asm); (case k5 => k_asm); (case k6 => k_is); (case k7 => k_is); (case k8 => ktr_room); (case k9 => exact BindsTo.of_eq rfl); (case c5 => decide); (case kB => exact locs rfl); (case c2 => exact rfl); (case c3 => exact rfl); (case c4 => exact rfl); k_whole; intro g' L' h' FG' F' N' B' X' T'; (try dsimp only); (try k_fold))
  repeat' ((fail_if_success (first | (with_reducible refine stop_ref ?_) | (with_reducible refine stop_lc ?_) | (with_reducible refine stop_alc ?_) | (with_reducible refine stop_zip ?_) | (with_reducible show IterE1 _ _ _ _ _ _ _ _ _ _ _ _ _ _ _) | (with_reducible show IterA1 _ _ _ _ _ _ _ _ _ _ _ _ _ _ _ _) | (with_reducible show CompOut _ _ _ _ _ _ _ _ _) | (with_reducible show IterF _ _ _ _ _ _ _ _ _ _ _) | (with_reducible show ForOut _ _ _ _ _ _ _ _ _))); first | (k_unfold; (try dsimp only)) | ((with_reducible refine item_shape ?_); k_dflt (refine item_at (by k_asm) (by k_mem) (by assumption) (by first | (with_reducible exact Int.natCast_nonneg _) | (with_reducible assumption) | decide | omega) (by first | (with_reducible assumption) | decide | omega) ?_)) | ((with_reducible refine for_shape ?_); k_dflt (refine ForF (by k_asm) (by rfl) (by rfl) (by with_unfolding_all passes_own) ?_)) | ((with_reducible show wpAny _ _ (call (Value.builtin "len") [Value.ref _]) _ _ _); k_dflt (refine kst_len (by k_asm) (by k_mem) (by first | assumption | rfl) (by omega) ?_)) | ((with_reducible refine floordiv_int ?kbe ?_ (Or.inl (PyProof.noPylong_of_log2 ?kbp))); (case kbe => first | assumption | omega); (case kbp => assumption)) | walk1 | (dsimp only; walk1) | (leave1; (try dsimp only)) | fail "no step")
  refine Tell.goF (C := t_figuresZ _ _ _ _ _ _ _ (by first | decide | omega | (split <;> omega))) (ret := ?_)
  intro f9 t9 h9 tk9 hf9 F9 N9
  (try dsimp only)
  (try k_fold)
  have e7 := hfs _ hf9
  subst e7
  repeat' ((fail_if_success (first | (with_reducible refine stop_ref ?_) | (with_reducible refine stop_lc ?_) | (with_reducible refine stop_alc ?_) | (with_reducible refine stop_zip ?_) | (with_reducible show IterE1 _ _ _ _ _ _ _ _ _ _ _ _ _ _ _) | (with_reducible show IterA1 _ _ _ _ _ _ _ _ _ _ _ _ _ _ _ _) | (with_reducible show CompOut _ _ _ _ _ _ _ _ _) | (with_reducible show IterF _ _ _ _ _ _ _ _ _ _ _) | (with_reducible show ForOut _ _ _ _ _ _ _ _ _))); first | (k_unfold; (try dsimp only)) | ((with_reducible refine item_shape ?_); k_dflt (refine item_at (by k_asm) (by k_mem) (by assumption) (by first | (with_reducible exact Int.natCast_nonneg _) | (with_reducible assumption) | decide | omega) (by first | (with_reducible assumption) | decide | omega) ?_)) | ((with_reducible refine for_shape ?_); k_dflt (refine ForF (by k_asm) (by rfl) (by rfl) (by with_unfolding_all passes_own) ?_)) | ((with_reducible show wpAny _ _ (call (Value.builtin "len") [Value.ref _]) _ _ _); k_dflt (refine kst_len (by k_asm) (by k_mem) (by first | assumption | rfl) (by omega) ?_)) | ((with_reducible refine floordiv_int ?kbe ?_ (Or.inl (PyProof.noPylong_of_log2 ?kbp))); (case kbe => first | assumption | omega); (case kbp => assumption)) | walk1 | (dsimp only; walk1) | (leave1; (try dsimp only)) | fail "no step")
  · exact hret _ _ _ _ (by k_asm) (by k_asm) ⟨_, _, _, rfl, by ktn_lt, rfl⟩
section
theorem t_decimal (w : World) (mean : ExcName → Option Value) (mg mb : Str → Option Value) (led : List (Addr × Obj)) (d : Int) (x : Addr) (t1 t2 t : Tok) (mx : (x, ({ cls := .type "tuple", data := .seq #[.int d t1, .int 1 t2] } : Obj)) ∈ led) (hlt : d.natAbs < 10 ^ 9) :
    Tell w mean mg mb 114 6 led [.ref x, .int 9 t] (fun led' r => ∃ y c i t3 t4, r = .ref y ∧ AllLt y led ∧ led' = (y, { cls := .type "tuple", data := .seq #[.int c t3, .int (i : Nat) t4] }) :: led ∧ c * 10 ^ i = d ∧ i ≤ 9) := by
  intro dp un gd cn cs a₁ ccd cl outer A₀ base h₀ L m s Q E B F X N T hk hd hu hret
  have hfs : ∀ F, IsFig (if d < 0 then -d else d).toNat F → 1 ≤ F ∧ F ≤ 9 := fun F hF => ⟨hF.1, fig_le hF (by split <;> omega) (by decide)⟩
  have hbits : Builtin.Int.intBits (if d < 0 then -d else d) ≤ 64 := abs_bits hlt
  refine wpAny_call ?_
  k_dflt (refine' code_def (binds := [(Str.ofString "one", .ref x), (Str.ofString "digits", .int 9 t)]) ?k1 ?k2 ?k3 ?k4 ?k5 ?kA ?kF ?kK ?k6 ?k7 ?k8 ?k9 ?kB ?_ ?c2 ?c3 ?c4 ?c5; (case kA => exact rfl); (case kF => exact rfl); (case kK => first | exact rfl | assumption); (case k1 => k_asm); (case k2 => k_asm); (case k3 => k_asm); (case k4 => k_asm); (case k5 => k_asm); (case k6 => k_is); (case k7 => k_is); (case k8 => ktr_room); (case k9 => exact BindsTo.of_eq rfl); (case c5 => decide); (case kB => exact locs rfl); (case c2 => exact rfl); (case c3 => exact rfl); (case c4 => exact rfl); k_whole; intro g' L' h' FG' F' N' B' X' T'; (try dsimp only); (try k_fold))
  repeat' ((fail_if_success (first | (with_reducible refine stop_ref ?_) | (with_reducible refine stop_lc ?_) | (with_reducible refine stop_alc ?_) | (with_reducible refine stop_zip ?_) | (with_reducible show IterE1 _ _ _ _ _ _ _ _ _ _ _ _ _ _ _) | (with_reducible show IterA1 _ _ _ _ _ _ _ _ _ _ _ _ _ _ _ _) | (with_reducible show CompOut _ _ _ _ _ _ _ _ _) | (with_reducible show IterF _ _ _ _ _ _ _ _ _ _ _) | (with_reducible show ForOut _ _ _ _ _ _ _ _ _))); first | (k_unfold; (try dsimp only)) | ((with_reducible refine mul_int (hm := ?kbe) ?_); (case kbe => exact IntMulOk.of_left (by assumption))) | ((with_reducible refine floordiv_int ?kbe ?_ (Or.inl (PyProof.noPylong_of_log2 ?kbp))); (case kbe => decide); (case kbp => decide)) | ((with_reducible refine item_shape ?_); k_dflt (refine item_at (by k_asm) (by k_mem) (by assumption) (by first | (with_reducible exact Int.natCast_nonneg _) | (with_reducible assumption) | decide | omega) (by first | (with_reducible assumption) | decide | omega) ?_)) | ((with_reducible refine for_shape ?_); k_dflt (refine ForF (by k_asm) (by rfl) (by rfl) (by with_unfolding_all passes_own) ?_)) | ((with_reducible show wpAny _ _ (call (Value.builtin "len") [Value.ref _]) _ _ _); k_dflt (refine kst_len (by k_asm) (by k_mem) (by first | assumption | rfl) (by omega) ?_)) | ((with_reducible refine floordiv_int ?kbe ?_ (Or.inl (PyProof.noPylong_of_log2 ?kbp))); (case kbe => first | assumption | omega); (case kbp => assumption)) | walk1 | (dsimp only; walk1) | (leave1; (try dsimp only)) | fail "no step")
  refine Tell.goF (C := t_figuresZ _ _ _ _ _ _ _ (by first | decide | omega | (split <;> omega))) (ret := ?_)
  intro f6 t6 h6 tk6 hf6 F6 N6
  (try dsimp only)
  (try k_fold)
  have e6 := fig_unique hf6 fig_one
  subst e6
  clear hf6
  repeat' ((fail_if_success (first | (with_reducible refine stop_ref ?_) | (with_reducible refine stop_lc ?_) | (with_reducible refine stop_alc ?_) | (with_reducible refine stop_zip ?_) | (with_reducible show IterE1 _ _ _ _ _ _ _ _ _ _ _ _ _ _ _) | (with_reducible show IterA1 _ _ _ _ _ _ _ _ _ _ _ _ _ _ _ _) | (with_reducible show CompOut _ _ _ _ _ _ _ _ _) | (with_reducible show IterF _ _ _ _ _ _ _ _ _ _ _) | (with_reducible show ForOut _ _ _ _ _ _ _ _ _))); first | (k_unfold; (try dsimp only)) | ((with_reducible refine mul_int (hm := ?kbe) ?_); (case kbe => exact IntMulOk.of_left (by assumption))) | ((with_reducible refine floordiv_int ?kbe ?_ (Or.inl (PyProof.noPylong_of_log2 ?kbp))); (case kbe => decide); (case kbp => decide)) | ((with_reducible refine item_shape ?_); k_dflt (refine item_at (by k_asm) (by k_mem) (by assumption) (by first | (with_reducible exact Int.natCast_nonneg _) | (with_reducible assumption) | decide | omega) (by first | (with_reducible assumption) | decide | omega) ?_)) | ((with_reducible refine for_shape ?_); k_dflt (refine ForF (by k_asm) (by rfl) (by rfl) (by with_unfolding_all passes_own) ?_)) | ((with_reducible show wpAny _ _ (call (Value.builtin "len") [Value.ref _]) _ _ _); k_dflt (refine kst_len (by k_asm) (by k_mem) (by first | assumption | rfl) (by omega) ?_)) | ((with_reducible refine floordiv_int ?kbe ?_ (Or.inl (PyProof.noPylong_of_log2 ?kbp))); (case kbe => first | assumption | omega); (case kbp => assumption)) | walk1 | (dsimp only; walk1) | (leave1; (try dsimp only)) | fail "no step")
  refine Tell.goF (C := t_figuresZ _ _ _ _ _ _ _ (by first | decide | omega | (split <;> omega))) (ret := ?_)
  intro f5 t5 h5 tk5 hf5 F5 N5
  (try dsimp only)
  (try k_fold)
  obtain ⟨b5, b6⟩ := hfs _ hf5
  repeat' ((fail_if_success (first | (with_reducible refine stop_ref ?_) | (with_reducible refine stop_lc ?_) | (with_reducible refine stop_alc ?_) | (with_reducible refine stop_zip ?_) | (with_reducible show IterE1 _ _ _ _ _ _ _ _ _ _ _ _ _ _ _) | (with_reducible show IterA1 _ _ _ _ _ _ _ _ _ _ _ _ _ _ _ _) | (with_reducible show CompOut _ _ _ _ _ _ _ _ _) | (with_reducible show IterF _ _ _ _ _ _ _ _ _ _ _) | (with_reducible show ForOut _ _ _ _ _ _ _ _ _))); first | (k_unfold; (try dsimp only)) | ((with_reducible refine mul_int (hm := ?kbe) ?_); (case kbe => exact IntMulOk.of_left (by assumption))) | ((with_reducible refine floordiv_int ?kbe ?_ (Or.inl (PyProof.noPylong_of_log2 ?kbp))); (case kbe => decide); (case kbp => decide)) | ((with_reducible refine item_shape ?_); k_dflt (refine item_at (by k_asm) (by k_mem) (by assumption) (by first | (with_reducible exact Int.natCast_nonneg _) | (with_reducible assumption) | decide | omega) (by first | (with_reducible assumption) | decide | omega) ?_)) | ((with_reducible refine for_shape ?_); k_dflt (refine ForF (by k_asm) (by rfl) (by rfl) (by with_unfolding_all passes_own) ?_)) | ((with_reducible show wpAny _ _ (call (Value.builtin "len") [Value.ref _]) _ _ _); k_dflt (refine kst_len (by k_asm) (by k_mem) (by first | assumption | rfl) (by omega) ?_)) | ((with_reducible refine floordiv_int ?kbe ?_ (Or.inl (PyProof.noPylong_of_log2 ?kbp))); (case kbe => first | assumption | omega); (case kbp => assumption)) | walk1 | (dsimp only; walk1) | (leave1; (try dsimp only)) | fail "no step")
  · rename IsFig _ _ => hf
    have hneg : d < 0 := by assumption
    have hd0 : d ≠ 0 := by omega
    have h8 := (hfs _ hf).2
    have hcc := dec_cn hf h8
    refine Tell.use (by k_asm) (by k_asm) (by k_asm) (by k_asm) (by k_asm) (by first | exact rfl | assumption) (t_made w mean mg mb _ d.natAbs _ _ _ _ _ _ hcc (dec_fig hf h8 hd0) (by omega) (by have := hf.1; omega) (by omega)) (by first | decide | exact room1 (by assumption) (by decide) | ktr_room) (by first | decide | exact units1 (by assumption) (by decide) | ktr_units) ?_
    intro r9 led9 h9 tk9 F9 N9 P9
    obtain ⟨x2, a, i, t5, t6, rfl, l2, rfl, hai, hi⟩ := P9
    dsimp only
    repeat' ((fail_if_success (first | (with_reducible refine stop_ref ?_) | (with_reducible refine stop_lc ?_) | (with_reducible refine stop_alc ?_) | (with_reducible refine stop_zip ?_) | (with_reducible show IterE1 _ _ _ _ _ _ _ _ _ _ _ _ _ _ _) | (with_reducible show IterA1 _ _ _ _ _ _ _ _ _ _ _ _ _ _ _ _) | (with_reducible show CompOut _ _ _ _ _ _ _ _ _) | (with_reducible show IterF _ _ _ _ _ _ _ _ _ _ _) | (with_reducible show ForOut _ _ _ _ _ _ _ _ _))); first | (k_unfold; (try dsimp only)) | ((with_reducible refine mul_int (hm := ?kbe) ?_); (case kbe => exact IntMulOk.of_left (by assumption))) | ((with_reducible refine floordiv_int ?kbe ?_ (Or.inl (PyProof.noPylong_of_log2 ?kbp))); (case kbe => decide); (case kbp => decide)) | ((with_reducible refine item_shape ?_); k_dflt (refine item_at (by k_asm) (by k_mem) (by assumption) (by first | (with_reducible exact Int.natCast_nonneg _) | (with_reducible assumption) | decide | omega) (by first | (with_reducible assumption) | decide | omega) ?_)) | ((with_reducible refine for_shape ?_); k_dflt (refine ForF (by k_asm) (by rfl) (by rfl) (by with_unfolding_all passes_own) ?_)) | ((with_reducible show wpAny _ _ (call (Value.builtin "len") [Value.ref _]) _ _ _); k_dflt (refine kst_len (by k_asm) (by k_mem) (by first | assumption | rfl) (by omega) ?_)) | ((with_reducible refine floordiv_int ?kbe ?_ (Or.inl (PyProof.noPylong_of_log2 ?kbp))); (case kbe => first | assumption | omega); (case kbp => assumption)) | walk1 | (dsimp only; walk1) | (leave1; (try dsimp only)) | fail "no step")
    exact hret _ _ _ _ (by k_asm) (News.keep1 (by k_asm)) ⟨x2, _, i, _, _, rfl, l2.2, rfl, dec_end (dec_nz hcc) (fun _ => Int.neg_nonpos_of_nonneg dec_pos) (fun h => absurd hneg h) hai, hi⟩
  · rename IsFig _ _ => hf
    have hneg : ¬ d < 0 := by assumption
    have h8 := (hfs _ hf).2
    by_cases hd0 : d = 0
    · have e0 : ∀ f : Int, (10 * ((if d < 0 then -d else d) * 10 ^ (9 + 3 + 1 - f).toNat).fdiv 1 + 0) = 0 := fun f => by subst hd0; simp
      simp only [e0]
      refine Tell.use (by k_asm) (by k_asm) (by k_asm) (by k_asm) (by k_asm) (by first | exact rfl | assumption) (t_made0 w mean mg mb _ _ _ _ _) (by first | decide | exact room1 (by assumption) (by decide) | ktr_room) (by first | decide | exact units1 (by assumption) (by decide) | ktr_units) ?_
      intro r9 led9 h9 tk9 F9 N9 P9
      obtain ⟨x2, t5, t6, rfl, l2, rfl⟩ := P9
      dsimp only
      repeat' ((fail_if_success (first | (with_reducible refine stop_ref ?_) | (with_reducible refine stop_lc ?_) | (with_reducible refine stop_alc ?_) | (with_reducible refine stop_zip ?_) | (with_reducible show IterE1 _ _ _ _ _ _ _ _ _ _ _ _ _ _ _) | (with_reducible show IterA1 _ _ _ _ _ _ _ _ _ _ _ _ _ _ _ _) | (with_reducible show CompOut _ _ _ _ _ _ _ _ _) | (with_reducible show IterF _ _ _ _ _ _ _ _ _ _ _) | (with_reducible show ForOut _ _ _ _ _ _ _ _ _))); first | (k_unfold; (try dsimp only)) | ((with_reducible refine mul_int (hm := ?kbe) ?_); (case kbe => exact IntMulOk.of_left (by assumption))) | ((with_reducible refine floordiv_int ?kbe ?_ (Or.inl (PyProof.noPylong_of_log2 ?kbp))); (case kbe => decide); (case kbp => decide)) | ((with_reducible refine item_shape ?_); k_dflt (refine item_at (by k_asm) (by k_mem) (by assumption) (by first | (with_reducible exact Int.natCast_nonneg _) | (with_reducible assumption) | decide | omega) (by first | (with_reducible assumption) | decide | omega) ?_)) | ((with_reducible refine for_shape ?_); k_dflt (refine ForF (by k_asm) (by rfl) (by rfl) (by with_unfolding_all passes_own) ?_)) | ((with_reducible show wpAny _ _ (call (Value.builtin "len") [Value.ref _]) _ _ _); k_dflt (refine kst_len (by k_asm) (by k_mem) (by first | assumption | rfl) (by omega) ?_)) | ((with_reducible refine floordiv_int ?kbe ?_ (Or.inl (PyProof.noPylong_of_log2 ?kbp))); (case kbe => first | assumption | omega); (case kbp => assumption)) | walk1 | (dsimp only; walk1) | (leave1; (try dsimp only)) | fail "no step")
      exact hret _ _ _ _ (by k_asm) (News.keep1 (by k_asm)) ⟨x2, 0, 0, _, _, rfl, l2.2, rfl, by rw [hd0]; rfl, by decide⟩
    · have hcc := dec_c hf h8
      refine Tell.use (by k_asm) (by k_asm) (by k_asm) (by k_asm) (by k_asm) (by first | exact rfl | assumption) (t_made w mean mg mb _ d.natAbs _ _ _ _ _ _ hcc (dec_fig hf h8 hd0) (by omega) (by have := hf.1; omega) (by omega)) (by first | decide | exact room1 (by assumption) (by decide) | ktr_room) (by first | decide | exact units1 (by assumption) (by decide) | ktr_units) ?_
      intro r9 led9 h9 tk9 F9 N9 P9
      obtain ⟨x2, a, i, t5, t6, rfl, l2, rfl, hai, hi⟩ := P9
      dsimp only
      repeat' ((fail_if_success (first | (with_reducible refine stop_ref ?_) | (with_reducible refine stop_lc ?_) | (with_reducible refine stop_alc ?_) | (with_reducible refine stop_zip ?_) | (with_reducible show IterE1 _ _ _ _ _ _ _ _ _ _ _ _ _ _ _) | (with_reducible show IterA1 _ _ _ _ _ _ _ _ _ _ _ _ _ _ _ _) | (with_reducible show CompOut _ _ _ _ _ _ _ _ _) | (with_reducible show IterF _ _ _ _ _ _ _ _ _ _ _) | (with_reducible show ForOut _ _ _ _ _ _ _ _ _))); first | (k_unfold; (try dsimp only)) | ((with_reducible refine mul_int (hm := ?kbe) ?_); (case kbe => exact IntMulOk.of_left (by assumption))) | ((with_reducible refine floordiv_int ?kbe ?_ (Or.inl (PyProof.noPylong_of_log2 ?kbp))); (case kbe => decide); (case kbp => decide)) | ((with_reducible refine item_shape ?_); k_dflt (refine item_at (by k_asm) (by k_mem) (by assumption) (by first | (with_reducible exact Int.natCast_nonneg _) | (with_reducible assumption) | decide | omega) (by first | (with_reducible assumption) | decide | omega) ?_)) | ((with_reducible refine for_shape ?_); k_dflt (refine ForF (by k_asm) (by rfl) (by rfl) (by with_unfolding_all passes_own) ?_)) | ((with_reducible show wpAny _ _ (call (Value.builtin "len") [Value.ref _]) _ _ _); k_dflt (refine kst_len (by k_asm) (by k_mem) (by first | assumption | rfl) (by omega) ?_)) | ((with_reducible refine floordiv_int ?kbe ?_ (Or.inl (PyProof.noPylong_of_log2 ?kbp))); (case kbe => first | assumption | omega); (case kbp => assumption)) | walk1 | (dsimp only; walk1) | (leave1; (try dsimp only)) | fail "no step")
      exact hret _ _ _ _ (by k_asm) (News.keep1 (by k_asm)) ⟨x2, _, i, _, _, rfl, l2.2, rfl, dec_end (dec_nz hcc) (fun h => absurd h hneg) (fun _ => dec_pos) hai, hi⟩
end
theorem t_fracof (w : World) (mean : ExcName → Option Value) (mg mb : Str → Option Value) (led : List (Addr × Obj)) (v : Int) (t : Tok) :
    Tell w mean mg mb 86 2 led [.int v t] (PostQ led ((v : Int) : Rat)) := by
  intro dp un gd cn cs a₁ ccd cl outer A₀ base h₀ L m s Q E B F X N T hk hd hu hret
  refine wpAny_call ?_
  k_dflt (refine' code_def (binds := [(Str.ofString "value", .int v t)]) ?k1 ?k2 ?k3 ?k4 ?k5 ?kA ?kF ?kK ?k6 ?k7 ?k8 ?k9 ?kB ?_ ?c2 ?c3 ?c4 ?c5; (case kA => exact rfl); (case kF => exact rfl); (case kK => first | exact rfl | assumption); (case k1 => k_asm); (case k2 => k_asm); (case k3 => k_asm); (case k4 => k_asm); (case k5 => k_asm); (case k6 => k_is); (case k7 => k_is); (case k8 => ktr_room); (case k9 => exact BindsTo.of_eq rfl); (case c5 => decide); (case kB => exact locs rfl); (case c2 => exact rfl); (case c3 => exact rfl); (case c4 => exact rfl); k_whole; intro g' L' h' FG' F' N' B' X' T'; (try dsimp only); (try k_fold))
  repeat' ((fail_if_success (first | (with_reducible refine stop_ref ?_) | (with_reducible refine stop_lc ?_) | (with_reducible refine stop_alc ?_) | (with_reducible refine stop_zip ?_) | (with_reducible show IterE1 _ _ _ _ _ _ _ _ _ _ _ _ _ _ _) | (with_reducible show IterA1 _ _ _ _ _ _ _ _ _ _ _ _ _ _ _ _) | (with_reducible show CompOut _ _ _ _ _ _ _ _ _) | (with_reducible show IterF _ _ _ _ _ _ _ _ _ _ _) | (with_reducible show ForOut _ _ _ _ _ _ _ _ _))); first | (k_unfold; (try dsimp only)) | ((with_reducible refine item_shape ?_); k_dflt (refine item_at (by k_asm) (by k_mem) (by assumption) (by first | (with_reducible exact Int.natCast_nonneg _) | (with_reducible assumption) | decide | omega) (by first | (with_reducible assumption) | decide | omega) ?_)) | ((with_reducible refine for_shape ?_); k_dflt (refine ForF (by k_asm) (by rfl) (by rfl) (by with_unfolding_all passes_own) ?_)) | ((with_reducible show wpAny _ _ (call (Value.builtin "len") [Value.ref _]) _ _ _); k_dflt (refine kst_len (by k_asm) (by k_mem) (by first | assumption | rfl) (by omega) ?_)) | ((with_reducible refine floordiv_int ?kbe ?_ (Or.inl (PyProof.noPylong_of_log2 ?kbp))); (case kbe => first | assumption | omega); (case kbp => assumption)) | walk1 | (dsimp only; walk1) | (leave1; (try dsimp only)) | fail "no step")
  exact hret _ _ _ _ (by k_asm) (by k_asm) (PostQ.mk (by ktn_lt) rfl rfl)
theorem t_shape (w : World) (mean : ExcName → Option Value) (mg mb : Str → Option Value) (led : List (Addr × Obj)) (G : Addr) (kG : Nat) (gs : List Value) (r0 : Addr) (k0 : Nat) (cs0 : List Value) (mG : (G, ({ cls := .type "list", data := .seq (List.toArray gs) kG } : Obj)) ∈ led) (hx0 : gs[(0 : Int).toNat]? = some (.ref r0)) (m0 : (r0, ({ cls := .type "list", data := .seq (List.toArray cs0) k0 } : Obj)) ∈ led) (h1 : gs.length < 2 ^ 20) (h2 : cs0.length < 2 ^ 20) :
    Tell w mean mg mb 65 2 led [.ref G] (fun led' r => ∃ x t u, r = .ref x ∧ AllLt x led ∧ led' = (x, { cls := .type "tuple", data := .seq #[.int (gs.length : Nat) t, .int (cs0.length : Nat) u] }) :: led) := by
  intro dp un gd cn cs a₁ ccd cl outer A₀ base h₀ L m s Q E B F X N T hk hd hu hret
  refine wpAny_call ?_
  k_dflt (refine' code_def (binds := [(Str.ofString "grid", .ref G)]) ?k1 ?k2 ?k3 ?k4 ?k5 ?kA ?kF ?kK ?k6 ?k7 ?k8 ?k9 ?kB ?_ ?c2 ?c3 ?c4 ?c5; (case kA => exact rfl); (case kF => exact rfl); (case kK => first | exact rfl | assumption); (case k1 => k_asm); (case k2 => k_asm); (case k3 => k_asm); (case k4 => k_asm); (case k5 => k_asm); (case k6 => k_is); (case k7 => k_is); (case k8 => ktr_room); (case k9 => exact BindsTo.of_eq rfl); (case c5 => decide); (case kB => exact locs rfl); (case c2 => exact rfl); (case c3 => exact rfl); (case c4 => exact rfl); k_whole; intro g' L' h' FG' F' N' B' X' T'; (try dsimp only); (try k_fold))
  have hpos : 0 < gs.length := (List.getElem?_eq_some_iff.mp hx0).1
  repeat' ((fail_if_success (first | (with_reducible refine stop_ref ?_) | (with_reducible refine stop_lc ?_) | (with_reducible refine stop_alc ?_) | (with_reducible refine stop_zip ?_) | (with_reducible show IterE1 _ _ _ _ _ _ _ _ _ _ _ _ _ _ _) | (with_reducible show IterA1 _ _ _ _ _ _ _ _ _ _ _ _ _ _ _ _) | (with_reducible show CompOut _ _ _ _ _ _ _ _ _) | (with_reducible show IterF _ _ _ _ _ _ _ _ _ _ _) | (with_reducible show ForOut _ _ _ _ _ _ _ _ _))); first | (k_unfold; (try dsimp only)) | ((with_reducible refine item_shape ?_); k_dflt (refine item_at (by k_asm) (by k_mem) (by assumption) (by first | (with_reducible exact Int.natCast_nonneg _) | (with_reducible assumption) | decide | omega) (by first | (with_reducible assumption) | decide | omega) ?_)) | ((with_reducible refine for_shape ?_); k_dflt (refine ForF (by k_asm) (by rfl) (by rfl) (by with_unfolding_all passes_own) ?_)) | ((with_reducible show wpAny _ _ (call (Value.builtin "len") [Value.ref _]) _ _ _); k_dflt (refine kst_len (by k_asm) (by k_mem) (by first | assumption | rfl) (by omega) ?_)) | ((with_reducible refine floordiv_int ?kbe ?_ (Or.inl (PyProof.noPylong_of_log2 ?kbp))); (case kbe => first | assumption | omega); (case kbp => assumption)) | walk1 | (dsimp only; walk1) | (leave1; (try dsimp only)) | fail "no step")
  all_goals first
    | exact hret _ _ _ _ (by k_asm) (by k_asm) ⟨_, _, _, rfl, by ktn_lt, rfl⟩
    | (exfalso; omega)
def GridJ (base led : List (Addr × Obj)) (M : List (List Int)) (j : Nat) (ys : List Value) (led₁ : List (Addr × Obj)) : Prop := ∃ tl, led₁ = tl ++ base ∧ (∀ p ∈ tl, ∀ q ∈ led, q.1 < p.1) ∧ RowsI tl ys (ratM (M.take j))
def CellJ (base : List (Addr × Obj)) (zs : List Int) (j : Nat) (ys : List Value) (led₁ : List (Addr × Obj)) : Prop := ∃ tl, led₁ = tl ++ base ∧ (∀ p ∈ tl, ∀ q ∈ base, q.1 < p.1) ∧ Cells tl ys ((zs.take j).map fun z => ((z : Int) : Rat))
theorem t_square (w : World) (mean : ExcName → Option Value) (mg mb : Str → Option Value) (led : List (Addr × Obj)) (M : List (List Int)) (n : Nat) (G : Addr) (kG : Nat) (gs : List Value) (mG : (G, ({ cls := .type "list", data := .seq (List.toArray gs) kG } : Obj)) ∈ led) (hM : IntRows led gs M) (hn : 1 ≤ n) (hn2 : n < 2 ^ 20) (hl : M.length = n) (hw : ∀ zs ∈ M, zs.length = n) :
    Tell w mean mg mb 136 5 led [.ref G] (fun led' v => ∃ tl R rs k, v = .ref R ∧ led' = tl ++ led ∧ (∀ p ∈ tl, ∀ q ∈ led, q.1 < p.1) ∧ (R, ({ cls := .type "list", data := .seq (List.toArray rs) k } : Obj)) ∈ tl ∧ Rows tl rs (ratM M)) := by
  intro dp un gd cn cs a₁ ccd cl outer A₀ base h₀ L m s Q E B F X N T hk hd hu hret
  refine wpAny_call ?_
  k_dflt (refine' code_def (binds := [(Str.ofString "grid", .ref G)]) ?k1 ?k2 ?k3 ?k4 ?k5 ?kA ?kF ?kK ?k6 ?k7 ?k8 ?k9 ?kB ?_ ?c2 ?c3 ?c4 ?c5; (case kA => exact rfl); (case kF => exact rfl); (case kK => first | exact rfl | assumption); (case k1 => k_asm); (case k2 => k_asm); (case k3 => k_asm); (case k4 => k_asm); (case k5 => k_asm); (case k6 => k_is); (case k7 => k_is); (case k8 => ktr_room); (case k9 => exact BindsTo.of_eq rfl); (case c5 => decide); (case kB => exact locs rfl); (case c2 => exact rfl); (case c3 => exact rfl); (case c4 => exact rfl); k_whole; intro g' L' h' FG' F' N' B' X' T'; (try dsimp only); (try k_fold))
  have hgl : gs.length = n := hM.length.trans hl
  obtain ⟨z0, hz0⟩ : ∃ zs, M[0]? = some zs := ⟨M[0], List.getElem?_eq_getElem (by omega)⟩
  obtain ⟨v0, hv0, r0, k0, cs0, rfl, hm0, hc0⟩ := hM.at hz0
  have hl0 : cs0.length = n := hc0.length.trans (hw _ (List.mem_of_getElem? hz0))
  have hx0 : gs[(0 : Int).toNat]? = some (.ref r0) := hv0
  repeat' ((fail_if_success (first | (with_reducible refine stop_ref ?_) | (with_reducible refine stop_lc ?_) | (with_reducible refine stop_alc ?_) | (with_reducible refine stop_zip ?_) | (with_reducible show IterE1 _ _ _ _ _ _ _ _ _ _ _ _ _ _ _) | (with_reducible show IterA1 _ _ _ _ _ _ _ _ _ _ _ _ _ _ _ _) | (with_reducible show CompOut _ _ _ _ _ _ _ _ _) | (with_reducible show IterF _ _ _ _ _ _ _ _ _ _ _) | (with_reducible show ForOut _ _ _ _ _ _ _ _ _))); first | (k_unfold; (try dsimp only)) | ((with_reducible refine item_shape ?_); k_dflt (refine item_at (by k_asm) (by k_mem) (by assumption) (by first | (with_reducible exact Int.natCast_nonneg _) | (with_reducible assumption) | decide | omega) (by first | (with_reducible assumption) | decide | omega) ?_)) | ((with_reducible refine for_shape ?_); k_dflt (refine ForF (by k_asm) (by rfl) (by rfl) (by with_unfolding_all passes_own) ?_)) | ((with_reducible show wpAny _ _ (call (Value.builtin "len") [Value.ref _]) _ _ _); k_dflt (refine kst_len (by k_asm) (by k_mem) (by first | assumption | rfl) (by omega) ?_)) | ((with_reducible refine floordiv_int ?kbe ?_ (Or.inl (PyProof.noPylong_of_log2 ?kbp))); (case kbe => first | assumption | omega); (case kbp => assumption)) | walk1 | (dsimp only; walk1) | (leave1; (try dsimp only)) | fail "no step")
  refine Tell.goN (C := t_shape _ _ _ _ _ _ _ _ _ _ _ (by k_mem) (by assumption) (by k_mem) (by omega) (by omega)) (ret := ?_)
  intro xA tA uA hA tkA lA FA NA
  (try dsimp only)
  (try k_fold)
  repeat' ((fail_if_success (first | (with_reducible refine stop_ref ?_) | (with_reducible refine stop_lc ?_) | (with_reducible refine stop_alc ?_) | (with_reducible refine stop_zip ?_) | (with_reducible show IterE1 _ _ _ _ _ _ _ _ _ _ _ _ _ _ _) | (with_reducible show IterA1 _ _ _ _ _ _ _ _ _ _ _ _ _ _ _ _) | (with_reducible show CompOut _ _ _ _ _ _ _ _ _) | (with_reducible show IterF _ _ _ _ _ _ _ _ _ _ _) | (with_reducible show ForOut _ _ _ _ _ _ _ _ _))); first | (k_unfold; (try dsimp only)) | ((with_reducible refine item_shape ?_); k_dflt (refine item_at (by k_asm) (by k_mem) (by assumption) (by first | (with_reducible exact Int.natCast_nonneg _) | (with_reducible assumption) | decide | omega) (by first | (with_reducible assumption) | decide | omega) ?_)) | ((with_reducible refine for_shape ?_); k_dflt (refine ForF (by k_asm) (by rfl) (by rfl) (by with_unfolding_all passes_own) ?_)) | ((with_reducible show wpAny _ _ (call (Value.builtin "len") [Value.ref _]) _ _ _); k_dflt (refine kst_len (by k_asm) (by k_mem) (by first | assumption | rfl) (by omega) ?_)) | ((with_reducible refine floordiv_int ?kbe ?_ (Or.inl (PyProof.noPylong_of_log2 ?kbp))); (case kbe => first | assumption | omega); (case kbp => assumption)) | walk1 | (dsimp only; walk1) | (leave1; (try dsimp only)) | fail "no step")
  · exfalso; omega
  · exfalso; omega
  rename_i hB hC hD FD ND tkB ha hb
  have hXA := lt_of_all lA
  k_dflt (refine ListComp1E (by k_asm) (by with_unfolding_all rfl) (by decide) (by rfl) (by decide) (by rfl) ?_)
  repeat' ((fail_if_success (first | (with_reducible refine stop_ref ?_) | (with_reducible refine stop_lc ?_) | (with_reducible refine stop_alc ?_) | (with_reducible refine stop_zip ?_) | (with_reducible show IterE1 _ _ _ _ _ _ _ _ _ _ _ _ _ _ _) | (with_reducible show IterA1 _ _ _ _ _ _ _ _ _ _ _ _ _ _ _ _) | (with_reducible show CompOut _ _ _ _ _ _ _ _ _) | (with_reducible show IterF _ _ _ _ _ _ _ _ _ _ _) | (with_reducible show ForOut _ _ _ _ _ _ _ _ _))); first | (k_unfold; (try dsimp only)) | ((with_reducible refine item_shape ?_); k_dflt (refine item_at (by k_asm) (by k_mem) (by assumption) (by first | (with_reducible exact Int.natCast_nonneg _) | (with_reducible assumption) | decide | omega) (by first | (with_reducible assumption) | decide | omega) ?_)) | ((with_reducible refine for_shape ?_); k_dflt (refine ForF (by k_asm) (by rfl) (by rfl) (by with_unfolding_all passes_own) ?_)) | ((with_reducible show wpAny _ _ (call (Value.builtin "len") [Value.ref _]) _ _ _); k_dflt (refine kst_len (by k_asm) (by k_mem) (by first | assumption | rfl) (by omega) ?_)) | ((with_reducible refine floordiv_int ?kbe ?_ (Or.inl (PyProof.noPylong_of_log2 ?kbp))); (case kbe => first | assumption | omega); (case kbp => assumption)) | walk1 | (dsimp only; walk1) | (leave1; (try dsimp only)) | fail "no step")
  refine IterE1.list rfl FD ND (List.mem_cons_of_mem _ mG) (by rw [List.size_toArray, sizeLine_eq]; omega) (GridJ _ led M) ⟨[], rfl, (fun _ h => nomatch h), .nil⟩ ?_ ?_
  · intro j v ys led₁ own C oC m₃ h tk E' hj hv hJ hC hns hxx FV NV
    refine hide fun H9 hH9 => ?_
    obtain ⟨tl, rfl, ht, hJ⟩ := hJ
    obtain ⟨zs, hzs, rr, kr, cs, rfl, hmr, hcs⟩ := hM.get (by simpa using hv)
    have hzl := hw _ (List.mem_of_getElem? hzs)
    have hcl := hcs.length
    refine hH9 ?_
    clear hH9 H9
    clear FD ND
    k_dflt (refine ListComp1E (by k_asm) (by with_unfolding_all rfl) (by decide) (by rfl) (by decide) (by rfl) ?_)
    repeat' ((fail_if_success (first | (with_reducible refine stop_ref ?_) | (with_reducible refine stop_lc ?_) | (with_reducible refine stop_alc ?_) | (with_reducible refine stop_zip ?_) | (with_reducible show IterE1 _ _ _ _ _ _ _ _ _ _ _ _ _ _ _) | (with_reducible show IterA1 _ _ _ _ _ _ _ _ _ _ _ _ _ _ _ _) | (with_reducible show CompOut _ _ _ _ _ _ _ _ _) | (with_reducible show IterF _ _ _ _ _ _ _ _ _ _ _) | (with_reducible show ForOut _ _ _ _ _ _ _ _ _))); first | (k_unfold; (try dsimp only)) | ((with_reducible refine item_shape ?_); k_dflt (refine item_at (by k_asm) (by k_mem) (by assumption) (by first | (with_reducible exact Int.natCast_nonneg _) | (with_reducible assumption) | decide | omega) (by first | (with_reducible assumption) | decide | omega) ?_)) | ((with_reducible refine for_shape ?_); k_dflt (refine ForF (by k_asm) (by rfl) (by rfl) (by with_unfolding_all passes_own) ?_)) | ((with_reducible show wpAny _ _ (call (Value.builtin "len") [Value.ref _]) _ _ _); k_dflt (refine kst_len (by k_asm) (by k_mem) (by first | assumption | rfl) (by omega) ?_)) | ((with_reducible refine floordiv_int ?kbe ?_ (Or.inl (PyProof.noPylong_of_log2 ?kbp))); (case kbe => first | assumption | omega); (case kbp => assumption)) | walk1 | (dsimp only; walk1) | (leave1; (try dsimp only)) | fail "no step")
    refine IterE1.list rfl FV NV (List.mem_append_right _ (List.mem_append_right _ (List.mem_cons_of_mem _ hmr))) (by rw [List.size_toArray, sizeLine_eq]; omega) (CellJ _ zs) ⟨[], rfl, (fun _ h => nomatch h), .nil⟩ ?_ ?_
    · intro j2 v2 ys2 led₂ own2 C2 oC2 m₄ h2 tk2 E2 hj2 hv2 hJ2 hC2 hns2 hxx2 FV2 NV2
      refine hide fun H9 hH9 => ?_
      obtain ⟨tl2, rfl, ht2, hJ2⟩ := hJ2
      obtain ⟨z, tz, rfl, hz⟩ := hcs.get (by simpa using hv2)
      refine hH9 ?_
      clear hH9 H9
      clear FV NV
      repeat' ((fail_if_success (first | (with_reducible refine stop_ref ?_) | (with_reducible refine stop_lc ?_) | (with_reducible refine stop_alc ?_) | (with_reducible refine stop_zip ?_) | (with_reducible show IterE1 _ _ _ _ _ _ _ _ _ _ _ _ _ _ _) | (with_reducible show IterA1 _ _ _ _ _ _ _ _ _ _ _ _ _ _ _ _) | (with_reducible show CompOut _ _ _ _ _ _ _ _ _) | (with_reducible show IterF _ _ _ _ _ _ _ _ _ _ _) | (with_reducible show ForOut _ _ _ _ _ _ _ _ _))); first | (k_unfold; (try dsimp only)) | ((with_reducible refine item_shape ?_); k_dflt (refine item_at (by k_asm) (by k_mem) (by assumption) (by first | (with_reducible exact Int.natCast_nonneg _) | (with_reducible assumption) | decide | omega) (by first | (with_reducible assumption) | decide | omega) ?_)) | ((with_reducible refine for_shape ?_); k_dflt (refine ForF (by k_asm) (by rfl) (by rfl) (by with_unfolding_all passes_own) ?_)) | ((with_reducible show wpAny _ _ (call (Value.builtin "len") [Value.ref _]) _ _ _); k_dflt (refine kst_len (by k_asm) (by k_mem) (by first | assumption | rfl) (by omega) ?_)) | ((with_reducible refine floordiv_int ?kbe ?_ (Or.inl (PyProof.noPylong_of_log2 ?kbp))); (case kbe => first | assumption | omega); (case kbp => assumption)) | walk1 | (dsimp only; walk1) | (leave1; (try dsimp only)) | fail "no step")
      refine Tell.goQ (C := t_fracof _ _ _ _ _ _ _) (ret := ?_)
      intro x9 t9 u9 h9 tk9 l9 F9 N9
      (try dsimp only)
      (try k_fold)
      repeat' ((fail_if_success (first | (with_reducible refine stop_ref ?_) | (with_reducible refine stop_lc ?_) | (with_reducible refine stop_alc ?_) | (with_reducible refine stop_zip ?_) | (with_reducible show IterE1 _ _ _ _ _ _ _ _ _ _ _ _ _ _ _) | (with_reducible show IterA1 _ _ _ _ _ _ _ _ _ _ _ _ _ _ _ _) | (with_reducible show CompOut _ _ _ _ _ _ _ _ _) | (with_reducible show IterF _ _ _ _ _ _ _ _ _ _ _) | (with_reducible show ForOut _ _ _ _ _ _ _ _ _))); first | (k_unfold; (try dsimp only)) | ((with_reducible refine item_shape ?_); k_dflt (refine item_at (by k_asm) (by k_mem) (by assumption) (by first | (with_reducible exact Int.natCast_nonneg _) | (with_reducible assumption) | decide | omega) (by first | (with_reducible assumption) | decide | omega) ?_)) | ((with_reducible refine for_shape ?_); k_dflt (refine ForF (by k_asm) (by rfl) (by rfl) (by with_unfolding_all passes_own) ?_)) | ((with_reducible show wpAny _ _ (call (Value.builtin "len") [Value.ref _]) _ _ _); k_dflt (refine kst_len (by k_asm) (by k_mem) (by first | assumption | rfl) (by omega) ?_)) | ((with_reducible refine floordiv_int ?kbe ?_ (Or.inl (PyProof.noPylong_of_log2 ?kbp))); (case kbe => first | assumption | omega); (case kbp => assumption)) | walk1 | (dsimp only; walk1) | (leave1; (try dsimp only)) | fail "no step")
      refine compOut_one (by k_asm) (by k_asm) (fun p hp => hp) (by assumption) ⟨_ :: tl2, rfl, fun p hp q hq => ?_, ?_⟩
      · rcases List.mem_cons.mp hp with rfl | hp
        · exact lt_of_all (by assumption) q (List.mem_append_right _ (List.mem_append_right _ hq))
        · exact ht2 p hp q hq
      · rw [take_map_succ' hz]
        exact (hJ2.mono fun p hp => List.mem_cons_of_mem _ hp).snoc List.mem_cons_self
    · intro D h2 tk2 ys2 led₂ FV2 NV2 hD hlt hlen hJ2
      refine hide fun H9 hH9 => ?_
      obtain ⟨tl2, rfl, ht2, hJ2⟩ := hJ2
      refine hH9 ?_
      clear hH9 H9
      rw [show cs.toArray.size = zs.length by rw [List.size_toArray, hcl], List.take_length] at hJ2
      have hr : RowIn ((D, LCg.lst ys2) :: tl2) (.ref D) (zs.map fun z => ((z : Int) : Rat)) := ⟨D, _, ys2, rfl, List.mem_cons_self, hJ2.mono fun p hp => List.mem_cons_of_mem _ hp⟩
      refine compOut_many (tl := (D, LCg.lst ys2) :: tl2) FV2 NV2 (fun p hp q hq => ?_) ⟨((D, LCg.lst ys2) :: tl2) ++ tl, (List.append_assoc ..).symm, fun p hp q hq => ?_, ?_⟩
      · rcases List.mem_cons.mp hp with rfl | hp
        · exact hlt q (List.mem_append_left _ hq)
        · exact ht2 p hp q (List.mem_append_left _ hq)
      · rcases List.mem_append.mp hp with hp | hp
        · rcases List.mem_cons.mp hp with rfl | hp
          · exact hlt q (List.mem_append_right _ (List.mem_append_right _ (List.mem_cons_of_mem _ hq)))
          · exact ht2 p hp q (List.mem_append_right _ (List.mem_append_right _ (List.mem_cons_of_mem _ hq)))
        · exact ht p hp q hq
      · unfold ratM
        rw [take_map_succ' hzs]
        exact (hJ.mono fun p hp => List.mem_append_right _ hp).snoc (hr.mono fun p hp => List.mem_append_left _ hp)
  · intro D h tk ys led₁ FV NV hD hlt hlen hJ
    refine hide fun H9 hH9 => ?_
    obtain ⟨tl, rfl, ht, hJ⟩ := hJ
    refine hH9 ?_
    clear hH9 H9
    rw [show gs.toArray.size = M.length by rw [List.size_toArray, hgl, hl], List.take_length] at hJ
    repeat' ((fail_if_success (first | (with_reducible refine stop_ref ?_) | (with_reducible refine stop_lc ?_) | (with_reducible refine stop_alc ?_) | (with_reducible refine stop_zip ?_) | (with_reducible show IterE1 _ _ _ _ _ _ _ _ _ _ _ _ _ _ _) | (with_reducible show IterA1 _ _ _ _ _ _ _ _ _ _ _ _ _ _ _ _) | (with_reducible show CompOut _ _ _ _ _ _ _ _ _) | (with_reducible show IterF _ _ _ _ _ _ _ _ _ _ _) | (with_reducible show ForOut _ _ _ _ _ _ _ _ _))); first | (k_unfold; (try dsimp only)) | ((with_reducible refine item_shape ?_); k_dflt (refine item_at (by k_asm) (by k_mem) (by assumption) (by first | (with_reducible exact Int.natCast_nonneg _) | (with_reducible assumption) | decide | omega) (by first | (with_reducible assumption) | decide | omega) ?_)) | ((with_reducible refine for_shape ?_); k_dflt (refine ForF (by k_asm) (by rfl) (by rfl) (by with_unfolding_all passes_own) ?_)) | ((with_reducible show wpAny _ _ (call (Value.builtin "len") [Value.ref _]) _ _ _); k_dflt (refine kst_len (by k_asm) (by k_mem) (by first | assumption | rfl) (by omega) ?_)) | ((with_reducible refine floordiv_int ?kbe ?_ (Or.inl (PyProof.noPylong_of_log2 ?kbp))); (case kbe => first | assumption | omega); (case kbp => assumption)) | walk1 | (dsimp only; walk1) | (leave1; (try dsimp only)) | fail "no step")
    refine hret _ (((D, LCg.lst ys) :: tl) ++ led) _ _ (by k_asm) (News.drop (news' := (D, LCg.lst ys) :: (tl ++ (xA, { cls := .type "tuple", data := .seq #[.int (gs.length : Nat) tA, .int (cs0.length : Nat) uA] }) :: led)) (by k_asm) fun p hp => ?_) ⟨(D, LCg.lst ys) :: tl, D, ys, _, rfl, rfl, fun p hp q hq => ?_, List.mem_cons_self, hJ.rows.mono fun p hp => List.mem_cons_of_mem _ hp⟩
    · rcases List.mem_append.mp hp with hp | hp
      · rcases List.mem_cons.mp hp with rfl | hp
        · exact List.mem_cons_self
        · exact List.mem_cons_of_mem _ (List.mem_append_left _ hp)
      · exact List.mem_cons_of_mem _ (List.mem_append_right _ (List.mem_cons_of_mem _ hp))
    · rcases List.mem_cons.mp hp with rfl | hp
      · exact hlt q (List.mem_cons_of_mem _ hq)
      · exact ht p hp q hq
theorem t_det (w : World) (mean : ExcName → Option Value) (mg mb : Str → Option Value) (led : List (Addr × Obj)) (M : List (List Int)) (n k : Nat) (D : Int) (G : Addr) (kG : Nat) (gs : List Value) (t : Tok) (mG : (G, ({ cls := .type "list", data := .seq (List.toArray gs) kG } : Obj)) ∈ led) (hM : IntRows led gs M) (hn : 1 ≤ n) (hl : M.length = n) (hw : ∀ zs ∈ M, zs.length = n) (hk1 : 1 ≤ k) (hz : ∀ zs ∈ M, ∀ z ∈ zs, z.natAbs < 2 ^ k) (hB : Bit k n ≤ 7000) (hn2 : n < 2 ^ 20) (hD : (solveM n n 0 (ratM M) 1).2 = (D : Rat)) (hlt : D.natAbs < 10 ^ 9) :
    Tell w mean mg mb 143 10 led [.ref G, .int 9 t] (fun led' r => ∃ y c i t3 t4, r = .ref y ∧ AllLt y led ∧ led' = (y, { cls := .type "tuple", data := .seq #[.int c t3, .int (i : Nat) t4] }) :: led ∧ c * 10 ^ i = D ∧ i ≤ 9) := by
  intro dp un gd cn cs a₁ ccd cl outer A₀ base h₀ L m s Q E B F X N T hk hd hu hret
  refine wpAny_call ?_
  k_dflt (refine' code_def (binds := [(Str.ofString "grid", .ref G), (Str.ofString "digits", .int 9 t)]) ?k1 ?k2 ?k3 ?k4 ?k5 ?kA ?kF ?kK ?k6 ?k7 ?k8 ?k9 ?kB ?_ ?c2 ?c3 ?c4 ?c5; (case kA => exact rfl); (case kF => exact rfl); (case kK => first | exact rfl | assumption); (case k1 => k_asm); (case k2 => k_asm); (case k3 => k_asm); (case k4 => k_asm); (case k5 => k_asm); (case k6 => k_is); (case k7 => k_is); (case k8 => ktr_room); (case k9 => exact BindsTo.of_eq rfl); (case c5 => decide); (case kB => exact locs rfl); (case c2 => exact rfl); (case c3 => exact rfl); (case c4 => exact rfl); k_whole; intro g' L' h' FG' F' N' B' X' T'; (try dsimp only); (try k_fold))
  repeat' ((fail_if_success (first | (with_reducible refine stop_ref ?_) | (with_reducible refine stop_lc ?_) | (with_reducible refine stop_alc ?_) | (with_reducible refine stop_zip ?_) | (with_reducible show IterE1 _ _ _ _ _ _ _ _ _ _ _ _ _ _ _) | (with_reducible show IterA1 _ _ _ _ _ _ _ _ _ _ _ _ _ _ _ _) | (with_reducible show CompOut _ _ _ _ _ _ _ _ _) | (with_reducible show IterF _ _ _ _ _ _ _ _ _ _ _) | (with_reducible show ForOut _ _ _ _ _ _ _ _ _))); first | (k_unfold; (try dsimp only)) | ((with_reducible refine item_shape ?_); k_dflt (refine item_at (by k_asm) (by k_mem) (by assumption) (by first | (with_reducible exact Int.natCast_nonneg _) | (with_reducible assumption) | decide | omega) (by first | (with_reducible assumption) | decide | omega) ?_)) | ((with_reducible refine for_shape ?_); k_dflt (refine ForF (by k_asm) (by rfl) (by rfl) (by with_unfolding_all passes_own) ?_)) | ((with_reducible show wpAny _ _ (call (Value.builtin "len") [Value.ref _]) _ _ _); k_dflt (refine kst_len (by k_asm) (by k_mem) (by first | assumption | rfl) (by omega) ?_)) | ((with_reducible refine floordiv_int ?kbe ?_ (Or.inl (PyProof.noPylong_of_log2 ?kbp))); (case kbe => first | assumption | omega); (case kbp => assumption)) | walk1 | (dsimp only; walk1) | (leave1; (try dsimp only)) | fail "no step")
  refine Tell.use (by k_asm) (by k_asm) (by k_asm) (by k_asm) (by k_asm) (by first | exact rfl | assumption) (t_square w mean mg mb _ M n G kG gs (by k_mem) hM hn hn2 hl hw) (by first | decide | exact room1 (by assumption) (by decide) | ktr_room) (by first | decide | exact units1 (by assumption) (by decide) | ktr_units) ?_
  intro r9 led9 h9 tk9 F9 N9 P9
  obtain ⟨tl, R, rs, kR, rfl, rfl, ht, hmR, hR⟩ := P9
  dsimp only
  repeat' ((fail_if_success (first | (with_reducible refine stop_ref ?_) | (with_reducible refine stop_lc ?_) | (with_reducible refine stop_alc ?_) | (with_reducible refine stop_zip ?_) | (with_reducible show IterE1 _ _ _ _ _ _ _ _ _ _ _ _ _ _ _) | (with_reducible show IterA1 _ _ _ _ _ _ _ _ _ _ _ _ _ _ _ _) | (with_reducible show CompOut _ _ _ _ _ _ _ _ _) | (with_reducible show IterF _ _ _ _ _ _ _ _ _ _ _) | (with_reducible show ForOut _ _ _ _ _ _ _ _ _))); first | (k_unfold; (try dsimp only)) | ((with_reducible refine item_shape ?_); k_dflt (refine item_at (by k_asm) (by k_mem) (by assumption) (by first | (with_reducible exact Int.natCast_nonneg _) | (with_reducible assumption) | decide | omega) (by first | (with_reducible assumption) | decide | omega) ?_)) | ((with_reducible refine for_shape ?_); k_dflt (refine ForF (by k_asm) (by rfl) (by rfl) (by with_unfolding_all passes_own) ?_)) | ((with_reducible show wpAny _ _ (call (Value.builtin "len") [Value.ref _]) _ _ _); k_dflt (refine kst_len (by k_asm) (by k_mem) (by first | assumption | rfl) (by omega) ?_)) | ((with_reducible refine floordiv_int ?kbe ?_ (Or.inl (PyProof.noPylong_of_log2 ?kbp))); (case kbe => first | assumption | omega); (case kbp => assumption)) | walk1 | (dsimp only; walk1) | (leave1; (try dsimp only)) | fail "no step")
  refine Tell.use (by k_asm) (by k_asm) (by k_asm) (by k_asm) (by k_asm) (by first | exact rfl | assumption) (t_solved w mean mg mb _ (ratM M) n n k R kR rs (List.mem_append_left _ hmR) (hR.mono fun p hp => List.mem_append_left _ hp) (ratM_wide hl hw) (Nat.le_refl n) (ratM_bits hk1 hz) hk1 hB hn2) (by first | decide | exact room1 (by assumption) (by decide) | ktr_room) (by first | decide | exact units1 (by assumption) (by decide) | ktr_units) ?_
  intro r9 led9 h8 tk8 F8 N8 P9
  obtain ⟨⟨tl2, rfl, ht2⟩, x, R2, kR2, T, rs2, t5, u5, rfl, hmx, hmR2, hr2, hmT⟩ := P9
  rw [hD] at hmT
  have hmT' : (T, ({ cls := .type "tuple", data := .seq #[.int D t5, .int 1 u5] } : Obj)) ∈ tl2 ++ (tl ++ led) := hmT
  dsimp only
  repeat' ((fail_if_success (first | (with_reducible refine stop_ref ?_) | (with_reducible refine stop_lc ?_) | (with_reducible refine stop_alc ?_) | (with_reducible refine stop_zip ?_) | (with_reducible show IterE1 _ _ _ _ _ _ _ _ _ _ _ _ _ _ _) | (with_reducible show IterA1 _ _ _ _ _ _ _ _ _ _ _ _ _ _ _ _) | (with_reducible show CompOut _ _ _ _ _ _ _ _ _) | (with_reducible show IterF _ _ _ _ _ _ _ _ _ _ _) | (with_reducible show ForOut _ _ _ _ _ _ _ _ _))); first | (k_unfold; (try dsimp only)) | ((with_reducible refine item_shape ?_); k_dflt (refine item_at (by k_asm) (by k_mem) (by assumption) (by first | (with_reducible exact Int.natCast_nonneg _) | (with_reducible assumption) | decide | omega) (by first | (with_reducible assumption) | decide | omega) ?_)) | ((with_reducible refine for_shape ?_); k_dflt (refine ForF (by k_asm) (by rfl) (by rfl) (by with_unfolding_all passes_own) ?_)) | ((with_reducible show wpAny _ _ (call (Value.builtin "len") [Value.ref _]) _ _ _); k_dflt (refine kst_len (by k_asm) (by k_mem) (by first | assumption | rfl) (by omega) ?_)) | ((with_reducible refine floordiv_int ?kbe ?_ (Or.inl (PyProof.noPylong_of_log2 ?kbp))); (case kbe => first | assumption | omega); (case kbp => assumption)) | walk1 | (dsimp only; walk1) | (leave1; (try dsimp only)) | fail "no step")
  refine Tell.use (by k_asm) (by k_asm) (by k_asm) (by k_asm) (by k_asm) (by first | exact rfl | assumption) (t_decimal w mean mg mb _ D T t5 u5 _ hmT' hlt) (by first | decide | exact room1 (by assumption) (by decide) | ktr_room) (by first | decide | exact units1 (by assumption) (by decide) | ktr_units) ?_
  intro r9 led9 h7 tk7 F7 N7 P9
  obtain ⟨y, c, i, t3, t4, rfl, hly, rfl, hc, hi⟩ := P9
  dsimp only
  repeat' ((fail_if_success (first | (with_reducible refine stop_ref ?_) | (with_reducible refine stop_lc ?_) | (with_reducible refine stop_alc ?_) | (with_reducible refine stop_zip ?_) | (with_reducible show IterE1 _ _ _ _ _ _ _ _ _ _ _ _ _ _ _) | (with_reducible show IterA1 _ _ _ _ _ _ _ _ _ _ _ _ _ _ _ _) | (with_reducible show CompOut _ _ _ _ _ _ _ _ _) | (with_reducible show IterF _ _ _ _ _ _ _ _ _ _ _) | (with_reducible show ForOut _ _ _ _ _ _ _ _ _))); first | (k_unfold; (try dsimp only)) | ((with_reducible refine item_shape ?_); k_dflt (refine item_at (by k_asm) (by k_mem) (by assumption) (by first | (with_reducible exact Int.natCast_nonneg _) | (with_reducible assumption) | decide | omega) (by first | (with_reducible assumption) | decide | omega) ?_)) | ((with_reducible refine for_shape ?_); k_dflt (refine ForF (by k_asm) (by rfl) (by rfl) (by with_unfolding_all passes_own) ?_)) | ((with_reducible show wpAny _ _ (call (Value.builtin "len") [Value.ref _]) _ _ _); k_dflt (refine kst_len (by k_asm) (by k_mem) (by first | assumption | rfl) (by omega) ?_)) | ((with_reducible refine floordiv_int ?kbe ?_ (Or.inl (PyProof.noPylong_of_log2 ?kbp))); (case kbe => first | assumption | omega); (case kbp => assumption)) | walk1 | (dsimp only; walk1) | (leave1; (try dsimp only)) | fail "no step")
  refine hret _ ((y, { cls := .type "tuple", data := .seq #[.int c t3, .int (i : Nat) t4] }) :: led) _ _ (by k_asm) (News.drop (news' := (y, { cls := .type "tuple", data := .seq #[.int c t3, .int (i : Nat) t4] }) :: (tl2 ++ (tl ++ led))) (by k_asm) fun p hp => ?_) ⟨y, c, i, t3, t4, rfl, ?_, rfl, hc, hi⟩
  · rcases List.mem_cons.mp hp with rfl | hp
    · exact List.mem_cons_self
    · exact List.mem_cons_of_mem _ (List.mem_append_right _ (List.mem_append_right _ hp))
  · exact allLt_drop (allLt_drop hly)
theorem Tell.goD {w : World} {mean : ExcName → Option Value} {mg mb : Str → Option Value} {fa : Addr} {need : Nat} {led : List (Addr × Obj)} {vs : List Value} {D : Int}
    {dp un : Nat} {gd : Option (List Code)} {cn : Str} {cs : Scope} {a : Addr} {ccd : Value} {cl : List (Str × Addr)} {outer : List Env} {A₀ : Around} {base h₀ : Heap} {L : Addr} {m : Str → Option Value} {s : Shared} {Q E : Value → Shared → Prop}
    (N : News h₀ L s.heap led := by k_asm) (B : Below A₀ base outer h₀ := by k_asm) (F : Fr h₀ L s.heap m := by k_asm) (X : (Mine.hd.heap_39 w.params).In h₀ := by k_asm) (T : TopP mean mg mb h₀ := by k_asm) (hk : cs.kind = .function := by first | exact rfl | assumption)
    (C : Tell w mean mg mb fa need led vs (fun led' r => ∃ y c i t3 t4, r = .ref y ∧ AllLt y led ∧ led' = (y, { cls := .type "tuple", data := .seq #[.int c t3, .int (i : Nat) t4] }) :: led ∧ c * 10 ^ i = D ∧ i ≤ 9))
    (ret : ∀ y c (i : Nat) t u h' tk', AllLt y led → c * 10 ^ i = D → i ≤ 9 → Fr h₀ L h' m → News h₀ L h' ((y, { cls := .type "tuple", data := .seq #[.int c t, .int (i : Nat) u] }) :: led) → Q (.ref y) { s with heap := h', toks := tk' })
    (hd : dp + need < recursionLimit := by first | decide | exact room1 (by assumption) (by decide) | ktr_room) (hu : un + 8 * need < cLine := by first | decide | exact units1 (by assumption) (by decide) | ktr_units) :
    wpAny (model PR w) (ktrTop dp un gd cn cs L a ccd cl outer) (call (.ref fa) vs) Q E s := Tell.use N B F X T hk C hd hu fun r led' h' tk' F' N' P => by
  obtain ⟨y, c, i, t, u, rfl, l, rfl, h1, h2⟩ := P
  exact ret y c i t u h' tk' l h1 h2 F' N'
theorem t_draw (w : World) (mean : ExcName → Option Value) (mg mb : Str → Option Value) (led : List (Addr × Obj)) (P Y : Addr) (kP kY : Nat) (vs : List Value) (ns : List Int) (i : Nat) (below : Int) (ti tb : Tok) (mY : (Y, ({ cls := .type "list", data := .seq (List.toArray vs) kY } : Obj)) ∈ led) (hv : Ints vs ns) (off : OwnOff led [P]) (hl : ns.length ≤ 8) (hi : i ≤ 50) (hb : 1 ≤ below) :
    Tell w mean mg mb 150 2 ((P, { cls := .type "list", data := .seq (List.toArray [.ref Y, .int (i : Nat) ti]) kP }) :: led) [.ref P, .int below tb] (fun led' r => ∃ v t t' k', r = .int v t ∧ 0 ≤ v ∧ v < below ∧ led' = (P, { cls := .type "list", data := .seq (List.toArray [.ref Y, .int ((i + 1 : Nat) : Int) t']) k' }) :: led) := by
  intro dp un gd cn cs a₁ ccd cl outer A₀ base h₀ L m s Q E B F X N T hk hd hu hret
  refine wpAny_call ?_
  k_dflt (refine' code_def (binds := [(Str.ofString "bag", .ref P), (Str.ofString "below", .int below tb)]) ?k1 ?k2 ?k3 ?k4 ?k5 ?kA ?kF ?kK ?k6 ?k7 ?k8 ?k9 ?kB ?_ ?c2 ?c3 ?c4 ?c5; (case kA => exact rfl); (case kF => exact rfl); (case kK => first | exact rfl | assumption); (case k1 => k_asm); (case k2 => k_asm); (case k3 => k_asm); (case k4 => k_asm); (case k5 => k_asm); (case k6 => k_is); (case k7 => k_is); (case k8 => ktr_room); (case k9 => exact BindsTo.of_eq rfl); (case c5 => decide); (case kB => exact locs rfl); (case c2 => exact rfl); (case c3 => exact rfl); (case c4 => exact rfl); k_whole; intro g' L' h' FG' F' N' B' X' T'; (try dsimp only); (try k_fold))
  have hvl := hv.length
  have hm1 : ∀ z : Int, 0 ≤ z.fmod below ∧ z.fmod below < below := fun z => ⟨Int.fmod_nonneg_of_pos _ (by omega), Int.fmod_lt_of_pos _ (by omega)⟩
  repeat' ((fail_if_success (first | (with_reducible refine stop_ref ?_) | (with_reducible refine stop_lc ?_) | (with_reducible refine stop_alc ?_) | (with_reducible refine stop_zip ?_) | (with_reducible show IterE1 _ _ _ _ _ _ _ _ _ _ _ _ _ _ _) | (with_reducible show IterA1 _ _ _ _ _ _ _ _ _ _ _ _ _ _ _ _) | (with_reducible show CompOut _ _ _ _ _ _ _ _ _) | (with_reducible show IterF _ _ _ _ _ _ _ _ _ _ _) | (with_reducible show ForOut _ _ _ _ _ _ _ _ _))); first | (k_unfold; (try dsimp only)) | ((with_reducible refine item_shape ?_); k_dflt (refine item_at (by k_asm) (by k_mem) (by assumption) (by first | (with_reducible exact Int.natCast_nonneg _) | (with_reducible assumption) | decide | omega) (by first | (with_reducible assumption) | decide | omega) ?_)) | ((with_reducible refine for_shape ?_); k_dflt (refine ForF (by k_asm) (by rfl) (by rfl) (by with_unfolding_all passes_own) ?_)) | ((with_reducible show wpAny _ _ (call (Value.builtin "len") [Value.ref _]) _ _ _); k_dflt (refine kst_len (by k_asm) (by k_mem) (by first | assumption | rfl) (by omega) ?_)) | ((with_reducible refine floordiv_int ?kbe ?_ (Or.inl (PyProof.noPylong_of_log2 ?kbp))); (case kbe => first | assumption | omega); (case kbp => assumption)) | walk1 | (dsimp only; walk1) | (leave1; (try dsimp only)) | fail "no step")
  · rename_i hli
    have hli' : i < ns.length := by omega
    obtain ⟨tz, hz⟩ := hv.at (List.getElem?_eq_getElem hli')
    have hx : vs[((i : Nat) : Int).toNat]? = some (.int ns[i] tz) := by rw [Int.toNat_natCast]; exact hz
    refine item_at (by k_asm) (List.mem_cons_of_mem _ mY) hx (by omega) (by omega) ?_
    repeat' ((fail_if_success (first | (with_reducible refine stop_ref ?_) | (with_reducible refine stop_lc ?_) | (with_reducible refine stop_alc ?_) | (with_reducible refine stop_zip ?_) | (with_reducible show IterE1 _ _ _ _ _ _ _ _ _ _ _ _ _ _ _) | (with_reducible show IterA1 _ _ _ _ _ _ _ _ _ _ _ _ _ _ _ _) | (with_reducible show CompOut _ _ _ _ _ _ _ _ _) | (with_reducible show IterF _ _ _ _ _ _ _ _ _ _ _) | (with_reducible show ForOut _ _ _ _ _ _ _ _ _))); first | (k_unfold; (try dsimp only)) | ((with_reducible refine item_shape ?_); k_dflt (refine item_at (by k_asm) (by k_mem) (by assumption) (by first | (with_reducible exact Int.natCast_nonneg _) | (with_reducible assumption) | decide | omega) (by first | (with_reducible assumption) | decide | omega) ?_)) | ((with_reducible refine for_shape ?_); k_dflt (refine ForF (by k_asm) (by rfl) (by rfl) (by with_unfolding_all passes_own) ?_)) | ((with_reducible show wpAny _ _ (call (Value.builtin "len") [Value.ref _]) _ _ _); k_dflt (refine kst_len (by k_asm) (by k_mem) (by first | assumption | rfl) (by omega) ?_)) | ((with_reducible refine floordiv_int ?kbe ?_ (Or.inl (PyProof.noPylong_of_log2 ?kbp))); (case kbe => first | assumption | omega); (case kbp => assumption)) | walk1 | (dsimp only; walk1) | (leave1; (try dsimp only)) | fail "no step")
    exact hret _ _ _ _ (by k_asm) (by k_asm) ⟨_, _, _, _, rfl, (hm1 _).1, (hm1 _).2, rfl⟩
  · exact hret _ _ _ _ (by k_asm) (by k_asm) ⟨_, _, _, _, rfl, (hm1 _).1, (hm1 _).2, rfl⟩
def AboveJ (base : List (Addr × Obj)) (ac up : Int) (ta tu : Tok) (l : List (Pt × Pt)) (i : Nat) (m₁ : Str → Option Value) (led₁ : List (Addr × Obj)) : Prop := led₁ = base ∧ m₁ (Str.ofString "across") = some (.int ac ta) ∧ m₁ (Str.ofString "up") = some (.int up tu) ∧ aboveL ac up (l.drop i) = aboveL ac up l
theorem t_above (w : World) (mean : ExcName → Option Value) (mg mb : Str → Option Value) (led : List (Addr × Obj)) (C p0 p1 p2 : Addr) (kC : Nat) (ps : List Pt) (ac up : Int) (ta tu : Tok)
    (mC : (C, ({ cls := .type "list", data := .seq #[.ref p0, .ref p1, .ref p2] kC } : Obj)) ∈ led) (hP : Pts led [.ref p0, .ref p1, .ref p2] ps) (hN : Near ps) (ha : -100 ≤ ac ∧ ac ≤ 100) (hu1 : -100 ≤ up ∧ up ≤ 100) :
    Tell w mean mg mb 171 2 led [.ref C, .int ac ta, .int up tu] (fun led' r => led' = led ∧ ∃ t, r = .int (aboveL ac up (ps.zip (ps.drop 1))) t) := by
  intro dp un gd cn cs a₁ ccd cl outer A₀ base h₀ L m s Q E B F X N T hk hd hu hret
  refine wpAny_call ?_
  k_dflt (refine' code_def (binds := [(Str.ofString "chain", .ref C), (Str.ofString "across", .int ac ta), (Str.ofString "up", .int up tu)]) ?k1 ?k2 ?k3 ?k4 ?k5 ?kA ?kF ?kK ?k6 ?k7 ?k8 ?k9 ?kB ?_ ?c2 ?c3 ?c4 ?c5; (case kA => exact rfl); (case kF => exact rfl); (case kK => first | exact rfl | assumption); (case k1 => k_asm); (case k2 => k_asm); (case k3 => k_asm); (case k4 => k_asm); (case k5 => k_asm); (case k6 => k_is); (case k7 => k_is); (case k8 => ktr_room); (case k9 => exact BindsTo.of_eq rfl); (case c5 => decide); (case kB => exact locs rfl); (case c2 => exact rfl); (case c3 => exact rfl); (case c4 => exact rfl); k_whole; intro g' L' h' FG' F' N' B' X' T'; (try dsimp only); (try k_fold))
  repeat' ((fail_if_success (first | (with_reducible refine stop_ref ?_) | (with_reducible refine stop_lc ?_) | (with_reducible refine stop_alc ?_) | (with_reducible refine stop_zip ?_) | (with_reducible show IterE1 _ _ _ _ _ _ _ _ _ _ _ _ _ _ _) | (with_reducible show IterA1 _ _ _ _ _ _ _ _ _ _ _ _ _ _ _ _) | (with_reducible show CompOut _ _ _ _ _ _ _ _ _) | (with_reducible show IterF _ _ _ _ _ _ _ _ _ _ _) | (with_reducible show ForOut _ _ _ _ _ _ _ _ _))); first | (k_unfold; (try dsimp only)) | ((with_reducible refine fort_shape ?_); k_dflt (refine ForF2 (by k_asm) (by with_unfolding_all passes_own) ?_)) | ((with_reducible refine item_shape ?_); k_dflt (refine item_at (by k_asm) (by k_mem) (by assumption) (by first | (with_reducible exact Int.natCast_nonneg _) | (with_reducible assumption) | decide | omega) (by first | (with_reducible assumption) | decide | omega) ?_)) | ((with_reducible refine for_shape ?_); k_dflt (refine ForF (by k_asm) (by rfl) (by rfl) (by with_unfolding_all passes_own) ?_)) | ((with_reducible show wpAny _ _ (call (Value.builtin "len") [Value.ref _]) _ _ _); k_dflt (refine kst_len (by k_asm) (by k_mem) (by first | assumption | rfl) (by omega) ?_)) | ((with_reducible refine floordiv_int ?kbe ?_ (Or.inl (PyProof.noPylong_of_log2 ?kbp))); (case kbe => first | assumption | omega); (case kbp => assumption)) | walk1 | (dsimp only; walk1) | (leave1; (try dsimp only)) | fail "no step")
  rename_i D2 h2 F2 N2 l2
  have hP2 := hP.tail
  refine IterF2.zip rfl F2 N2 (l1 := C) (xs := [.ref p0, .ref p1, .ref p2]) (ys := [.ref p1, .ref p2]) (List.mem_cons_of_mem _ mC) List.mem_cons_self
    (AboveJ ((D2, W.listOf #[Value.ref p1, Value.ref p2] 0) :: led) ac up ta tu (ps.zip (ps.drop 1))) ⟨rfl, rfl, rfl, rfl⟩ ?_ ?_
  · intro i v v₂ T2 m₁ led₁ own h tk hi hv hv₂ hJ hT2 F3 N3
    refine hide fun H9 hH9 => ?_
    obtain ⟨rfl, e1, e2, e3⟩ := hJ
    obtain ⟨a, x, y, t5, u5, rfl, ma, ga⟩ := hP.get hv
    obtain ⟨b, x', y', t6, u6, rfl, mb2, gb⟩ := hP2.get hv₂
    have F4 := fr_known (fr_known F3 e1) (x := Str.ofString "up") (v := .int up tu) (by rw [if_neg (by decide)]; exact e2)
    have hz := zip_get ga gb
    rw [drop_get hz] at e3
    obtain ⟨hn1, hn2, hn3, hn4⟩ := hN _ (List.mem_of_getElem? ga)
    obtain ⟨hn5, hn6, hn7, hn8⟩ := hN _ (List.mem_of_mem_drop (List.mem_of_getElem? gb))
    dsimp only at hn1 hn2 hn3 hn4 hn5 hn6 hn7 hn8
    have e4 : (if x ≤ ac ∧ ac ≤ x' then (x' - x) * (up - y) - (y' - y) * (ac - x) else aboveL ac up (List.drop (i + 1) (ps.zip (ps.drop 1)))) = aboveL ac up (ps.zip (ps.drop 1)) := e3
    refine hH9 ?_
    clear hH9 H9
    clear F3 hi hv hv₂ hz e3
    repeat' ((fail_if_success (first | (with_reducible refine stop_ref ?_) | (with_reducible refine stop_lc ?_) | (with_reducible refine stop_alc ?_) | (with_reducible refine stop_zip ?_) | (with_reducible show IterE1 _ _ _ _ _ _ _ _ _ _ _ _ _ _ _) | (with_reducible show IterA1 _ _ _ _ _ _ _ _ _ _ _ _ _ _ _ _) | (with_reducible show CompOut _ _ _ _ _ _ _ _ _) | (with_reducible show IterF _ _ _ _ _ _ _ _ _ _ _) | (with_reducible show ForOut _ _ _ _ _ _ _ _ _))); first | (k_unfold; (try dsimp only)) | ((with_reducible refine fort_shape ?_); k_dflt (refine ForF2 (by k_asm) (by with_unfolding_all passes_own) ?_)) | ((with_reducible refine item_shape ?_); k_dflt (refine item_at (by k_asm) (by k_mem) (by assumption) (by first | (with_reducible exact Int.natCast_nonneg _) | (with_reducible assumption) | decide | omega) (by first | (with_reducible assumption) | decide | omega) ?_)) | ((with_reducible refine for_shape ?_); k_dflt (refine ForF (by k_asm) (by rfl) (by rfl) (by with_unfolding_all passes_own) ?_)) | ((with_reducible show wpAny _ _ (call (Value.builtin "len") [Value.ref _]) _ _ _); k_dflt (refine kst_len (by k_asm) (by k_mem) (by first | assumption | rfl) (by omega) ?_)) | ((with_reducible refine floordiv_int ?kbe ?_ (Or.inl (PyProof.noPylong_of_log2 ?kbp))); (case kbe => first | assumption | omega); (case kbp => assumption)) | walk1 | (dsimp only; walk1) | (leave1; (try dsimp only)) | fail "no step")
    · dsimp only
      unfold ForOut
      dsimp only
      repeat' ((fail_if_success (first | (with_reducible refine stop_ref ?_) | (with_reducible refine stop_lc ?_) | (with_reducible refine stop_alc ?_) | (with_reducible refine stop_zip ?_) | (with_reducible show IterE1 _ _ _ _ _ _ _ _ _ _ _ _ _ _ _) | (with_reducible show IterA1 _ _ _ _ _ _ _ _ _ _ _ _ _ _ _ _) | (with_reducible show CompOut _ _ _ _ _ _ _ _ _) | (with_reducible show IterF _ _ _ _ _ _ _ _ _ _ _) | (with_reducible show ForOut _ _ _ _ _ _ _ _ _))); first | (k_unfold; (try dsimp only)) | ((with_reducible refine fort_shape ?_); k_dflt (refine ForF2 (by k_asm) (by with_unfolding_all passes_own) ?_)) | ((with_reducible refine item_shape ?_); k_dflt (refine item_at (by k_asm) (by k_mem) (by assumption) (by first | (with_reducible exact Int.natCast_nonneg _) | (with_reducible assumption) | decide | omega) (by first | (with_reducible assumption) | decide | omega) ?_)) | ((with_reducible refine for_shape ?_); k_dflt (refine ForF (by k_asm) (by rfl) (by rfl) (by with_unfolding_all passes_own) ?_)) | ((with_reducible show wpAny _ _ (call (Value.builtin "len") [Value.ref _]) _ _ _); k_dflt (refine kst_len (by k_asm) (by k_mem) (by first | assumption | rfl) (by omega) ?_)) | ((with_reducible refine floordiv_int ?kbe ?_ (Or.inl (PyProof.noPylong_of_log2 ?kbp))); (case kbe => first | assumption | omega); (case kbp => assumption)) | walk1 | (dsimp only; walk1) | (leave1; (try dsimp only)) | fail "no step")
      exact hret _ _ _ _ (by k_asm) (News.drop (by k_asm) fun p hp => List.mem_append_right _ (List.mem_cons_of_mem _ hp)) ⟨rfl, _, by rw [← e4, if_pos ⟨by assumption, by assumption⟩]⟩
    all_goals
      rw [if_neg (fun h => by obtain ⟨h1, h2⟩ := h; contradiction)] at e4
      exact forOut_same (by k_asm) (by k_asm) (fun _ h => h) ⟨rfl, by with_unfolding_all rfl, by with_unfolding_all rfl, e4⟩
  · intro h tk m₁ led₁ hJ F1 N1
    refine hide fun H9 hH9 => ?_
    obtain ⟨rfl, e1, e2, e3⟩ := hJ
    refine hH9 ?_
    clear hH9 H9
    rw [List.drop_of_length_le (by have := hP.length; simp at this ⊢; omega)] at e3
    repeat' ((fail_if_success (first | (with_reducible refine stop_ref ?_) | (with_reducible refine stop_lc ?_) | (with_reducible refine stop_alc ?_) | (with_reducible refine stop_zip ?_) | (with_reducible show IterE1 _ _ _ _ _ _ _ _ _ _ _ _ _ _ _) | (with_reducible show IterA1 _ _ _ _ _ _ _ _ _ _ _ _ _ _ _ _) | (with_reducible show CompOut _ _ _ _ _ _ _ _ _) | (with_reducible show IterF _ _ _ _ _ _ _ _ _ _ _) | (with_reducible show ForOut _ _ _ _ _ _ _ _ _))); first | (k_unfold; (try dsimp only)) | ((with_reducible refine fort_shape ?_); k_dflt (refine ForF2 (by k_asm) (by with_unfolding_all passes_own) ?_)) | ((with_reducible refine item_shape ?_); k_dflt (refine item_at (by k_asm) (by k_mem) (by assumption) (by first | (with_reducible exact Int.natCast_nonneg _) | (with_reducible assumption) | decide | omega) (by first | (with_reducible assumption) | decide | omega) ?_)) | ((with_reducible refine for_shape ?_); k_dflt (refine ForF (by k_asm) (by rfl) (by rfl) (by with_unfolding_all passes_own) ?_)) | ((with_reducible show wpAny _ _ (call (Value.builtin "len") [Value.ref _]) _ _ _); k_dflt (refine kst_len (by k_asm) (by k_mem) (by first | assumption | rfl) (by omega) ?_)) | ((with_reducible refine floordiv_int ?kbe ?_ (Or.inl (PyProof.noPylong_of_log2 ?kbp))); (case kbe => first | assumption | omega); (case kbp => assumption)) | walk1 | (dsimp only; walk1) | (leave1; (try dsimp only)) | fail "no step")
    exact hret _ _ _ _ (by k_asm) (News.drop (by k_asm) fun p hp => List.mem_cons_of_mem _ hp) ⟨rfl, _, by rw [← e3]; rfl⟩
theorem stop_slice {M A Q E s e a b c p l k} (h : False) : wpAny M A (subscriptTail e (PySem.Expr.Slice a b c p) (Value.ref l) (Value.ref k)) Q E s := h.elim
theorem stop_cat {M A Q E s l k} (h : False) : wpAny M A (binaryOp .Add (Value.ref l) (Value.ref k)) Q E s := h.elim
theorem t_border (w : World) (mean : ExcName → Option Value) (mg mb : Str → Option Value) (led : List (Addr × Obj)) (C : Addr) (ws : List Value) (kC : Nat) (ps : List Pt) (hc1 : 1 ≤ ws.length) (hcz : ws.length ≤ 100)
    (mC : (C, ({ cls := .type "list", data := .seq ws.toArray kC } : Obj)) ∈ led) (hP : Pts led ws ps) (hN : Near ps) :
    Tell w mean mg mb 164 3 led [.ref C] (fun led' r => led' = led ∧ ∃ t, r = .int (addUp gcdP (ps.zip (ps.drop 1 ++ ps.take 1))) t) := by
  intro dp un gd cn cs a₁ ccd cl outer A₀ base h₀ L m s Q E B F X N T hk hd hu hret
  have hcs : ws.length ≤ sizeLine := by rw [sizeLine_eq]; omega
  have hcs2 : (ws.drop 1).length + (ws.take 1).length ≤ sizeLine := by rw [sizeLine_eq, List.length_drop, List.length_take]; omega
  refine wpAny_call ?_
  k_dflt (refine' code_def (binds := [(Str.ofString "corners", .ref C)]) ?k1 ?k2 ?k3 ?k4 ?k5 ?kA ?kF ?kK ?k6 ?k7 ?k8 ?k9 ?kB ?_ ?c2 ?c3 ?c4 ?c5; (case kA => exact rfl); (case kF => exact rfl); (case kK => first | exact rfl | assumption); (case k1 => k_asm); (case k2 => k_asm); (case k3 => k_asm); (case k4 => k_asm); (case k5 => k_asm); (case k6 => k_is); (case k7 => k_is); (case k8 => ktr_room); (case k9 => exact BindsTo.of_eq rfl); (case c5 => decide); (case kB => exact locs rfl); (case c2 => exact rfl); (case c3 => exact rfl); (case c4 => exact rfl); k_whole; intro g' L' h' FG' F' N' B' X' T'; (try dsimp only); (try k_fold))
  repeat' ((fail_if_success (first | (with_reducible refine stop_slice ?_) | (with_reducible refine stop_cat ?_) | (with_reducible refine stop_ref ?_) | (with_reducible refine stop_lc ?_) | (with_reducible refine stop_alc ?_) | (with_reducible refine stop_zip ?_) | (with_reducible show IterE1 _ _ _ _ _ _ _ _ _ _ _ _ _ _ _) | (with_reducible show IterA1 _ _ _ _ _ _ _ _ _ _ _ _ _ _ _ _) | (with_reducible show CompOut _ _ _ _ _ _ _ _ _) | (with_reducible show IterF _ _ _ _ _ _ _ _ _ _ _) | (with_reducible show ForOut _ _ _ _ _ _ _ _ _))); first | (k_unfold; (try dsimp only)) | ((with_reducible refine fort_shape ?_); k_dflt (refine ForF2 (by k_asm) (by with_unfolding_all passes_own) ?_)) | ((with_reducible refine item_shape ?_); k_dflt (refine item_at (by k_asm) (by k_mem) (by assumption) (by first | (with_reducible exact Int.natCast_nonneg _) | (with_reducible assumption) | decide | omega) (by first | (with_reducible assumption) | decide | omega) ?_)) | ((with_reducible refine for_shape ?_); k_dflt (refine ForF (by k_asm) (by rfl) (by rfl) (by with_unfolding_all passes_own) ?_)) | ((with_reducible show wpAny _ _ (call (Value.builtin "len") [Value.ref _]) _ _ _); k_dflt (refine kst_len (by k_asm) (by k_mem) (by first | assumption | rfl) (by omega) ?_)) | ((with_reducible refine floordiv_int ?kbe ?_ (Or.inl (PyProof.noPylong_of_log2 ?kbp))); (case kbe => first | assumption | omega); (case kbp => assumption)) | walk1 | (dsimp only; walk1) | (leave1; (try dsimp only)) | fail "no step")
  refine from_at (by k_asm) (by k_asm) mC hc1 hcs (by kmk_part) (by kmk_part) ?_ (by with_unfolding_all rfl) (by kmk_pure)
  intro Da ha Fa Na la
  (try dsimp only)
  repeat' ((fail_if_success (first | (with_reducible refine stop_slice ?_) | (with_reducible refine stop_cat ?_) | (with_reducible refine stop_ref ?_) | (with_reducible refine stop_lc ?_) | (with_reducible refine stop_alc ?_) | (with_reducible refine stop_zip ?_) | (with_reducible show IterE1 _ _ _ _ _ _ _ _ _ _ _ _ _ _ _) | (with_reducible show IterA1 _ _ _ _ _ _ _ _ _ _ _ _ _ _ _ _) | (with_reducible show CompOut _ _ _ _ _ _ _ _ _) | (with_reducible show IterF _ _ _ _ _ _ _ _ _ _ _) | (with_reducible show ForOut _ _ _ _ _ _ _ _ _))); first | (k_unfold; (try dsimp only)) | ((with_reducible refine fort_shape ?_); k_dflt (refine ForF2 (by k_asm) (by with_unfolding_all passes_own) ?_)) | ((with_reducible refine item_shape ?_); k_dflt (refine item_at (by k_asm) (by k_mem) (by assumption) (by first | (with_reducible exact Int.natCast_nonneg _) | (with_reducible assumption) | decide | omega) (by first | (with_reducible assumption) | decide | omega) ?_)) | ((with_reducible refine for_shape ?_); k_dflt (refine ForF (by k_asm) (by rfl) (by rfl) (by with_unfolding_all passes_own) ?_)) | ((with_reducible show wpAny _ _ (call (Value.builtin "len") [Value.ref _]) _ _ _); k_dflt (refine kst_len (by k_asm) (by k_mem) (by first | assumption | rfl) (by omega) ?_)) | ((with_reducible refine floordiv_int ?kbe ?_ (Or.inl (PyProof.noPylong_of_log2 ?kbp))); (case kbe => first | assumption | omega); (case kbp => assumption)) | walk1 | (dsimp only; walk1) | (leave1; (try dsimp only)) | fail "no step")
  refine upto_at (by k_asm) (by k_asm) (List.mem_cons_of_mem _ mC) hc1 hcs (by kmk_part) (by kmk_part) ?_ (by with_unfolding_all rfl) (by kmk_pure)
  intro Db hb Fb Nb lb
  (try dsimp only)
  repeat' ((fail_if_success (first | (with_reducible refine stop_slice ?_) | (with_reducible refine stop_cat ?_) | (with_reducible refine stop_ref ?_) | (with_reducible refine stop_lc ?_) | (with_reducible refine stop_alc ?_) | (with_reducible refine stop_zip ?_) | (with_reducible show IterE1 _ _ _ _ _ _ _ _ _ _ _ _ _ _ _) | (with_reducible show IterA1 _ _ _ _ _ _ _ _ _ _ _ _ _ _ _ _) | (with_reducible show CompOut _ _ _ _ _ _ _ _ _) | (with_reducible show IterF _ _ _ _ _ _ _ _ _ _ _) | (with_reducible show ForOut _ _ _ _ _ _ _ _ _))); first | (k_unfold; (try dsimp only)) | ((with_reducible refine fort_shape ?_); k_dflt (refine ForF2 (by k_asm) (by with_unfolding_all passes_own) ?_)) | ((with_reducible refine item_shape ?_); k_dflt (refine item_at (by k_asm) (by k_mem) (by assumption) (by first | (with_reducible exact Int.natCast_nonneg _) | (with_reducible assumption) | decide | omega) (by first | (with_reducible assumption) | decide | omega) ?_)) | ((with_reducible refine for_shape ?_); k_dflt (refine ForF (by k_asm) (by rfl) (by rfl) (by with_unfolding_all passes_own) ?_)) | ((with_reducible show wpAny _ _ (call (Value.builtin "len") [Value.ref _]) _ _ _); k_dflt (refine kst_len (by k_asm) (by k_mem) (by first | assumption | rfl) (by omega) ?_)) | ((with_reducible refine floordiv_int ?kbe ?_ (Or.inl (PyProof.noPylong_of_log2 ?kbp))); (case kbe => first | assumption | omega); (case kbp => assumption)) | walk1 | (dsimp only; walk1) | (leave1; (try dsimp only)) | fail "no step")
  refine cat_at (by k_asm) (by k_asm) (List.mem_cons_of_mem _ List.mem_cons_self) List.mem_cons_self hcs2 ?_
  intro Dc hc Fc Nc lc
  (try dsimp only)
  repeat' ((fail_if_success (first | (with_reducible refine stop_slice ?_) | (with_reducible refine stop_cat ?_) | (with_reducible refine stop_ref ?_) | (with_reducible refine stop_lc ?_) | (with_reducible refine stop_alc ?_) | (with_reducible refine stop_zip ?_) | (with_reducible show IterE1 _ _ _ _ _ _ _ _ _ _ _ _ _ _ _) | (with_reducible show IterA1 _ _ _ _ _ _ _ _ _ _ _ _ _ _ _ _) | (with_reducible show CompOut _ _ _ _ _ _ _ _ _) | (with_reducible show IterF _ _ _ _ _ _ _ _ _ _ _) | (with_reducible show ForOut _ _ _ _ _ _ _ _ _))); first | (k_unfold; (try dsimp only)) | ((with_reducible refine fort_shape ?_); k_dflt (refine ForF2 (by k_asm) (by with_unfolding_all passes_own) ?_)) | ((with_reducible refine item_shape ?_); k_dflt (refine item_at (by k_asm) (by k_mem) (by assumption) (by first | (with_reducible exact Int.natCast_nonneg _) | (with_reducible assumption) | decide | omega) (by first | (with_reducible assumption) | decide | omega) ?_)) | ((with_reducible refine for_shape ?_); k_dflt (refine ForF (by k_asm) (by rfl) (by rfl) (by with_unfolding_all passes_own) ?_)) | ((with_reducible show wpAny _ _ (call (Value.builtin "len") [Value.ref _]) _ _ _); k_dflt (refine kst_len (by k_asm) (by k_mem) (by first | assumption | rfl) (by omega) ?_)) | ((with_reducible refine floordiv_int ?kbe ?_ (Or.inl (PyProof.noPylong_of_log2 ?kbp))); (case kbe => first | assumption | omega); (case kbp => assumption)) | walk1 | (dsimp only; walk1) | (leave1; (try dsimp only)) | fail "no step")
  have hP2 := hP.drop1.app hP.take1
  have ND' := Mine.News.keep1 (Mine.News.keep1 Nc)
  clear Na Nb Nc Fa Fb
  refine IterF2.zip rfl Fc ND' (l1 := C) (xs := ws) (ys := ws.drop 1 ++ ws.take 1) (List.mem_cons_of_mem _ mC) List.mem_cons_self (AddJ ((Dc, W.listOf (ws.drop 1 ++ ws.take 1).toArray 0) :: led) gcdP (ps.zip (ps.drop 1 ++ ps.take 1))) (by exact ⟨rfl, 0, _, by with_unfolding_all rfl, by rw [List.drop_zero, Int.zero_add]⟩) ?_ ?_
  · intro i v v₂ T2 m₁ led₁ own h tk hi hv hv₂ hJ hT2 F3 N3
    refine hide fun H9 hH9 => ?_
    obtain ⟨rfl, z, tz, e1, e2⟩ := hJ
    obtain ⟨a, x, y, t5, u5, rfl, ma, ga⟩ := hP.get hv
    obtain ⟨b, x', y', t6, u6, rfl, mb2, gb⟩ := hP2.get hv₂
    have F4 := fr_known F3 e1
    rw [addUp_drop (zip_get ga gb), ← Int.add_assoc] at e2
    refine hH9 ?_
    clear hH9 H9
    clear F3 hi hv hv₂ Fc ND'
    repeat' ((fail_if_success (first | (with_reducible refine stop_slice ?_) | (with_reducible refine stop_cat ?_) | (with_reducible refine stop_ref ?_) | (with_reducible refine stop_lc ?_) | (with_reducible refine stop_alc ?_) | (with_reducible refine stop_zip ?_) | (with_reducible show IterE1 _ _ _ _ _ _ _ _ _ _ _ _ _ _ _) | (with_reducible show IterA1 _ _ _ _ _ _ _ _ _ _ _ _ _ _ _ _) | (with_reducible show CompOut _ _ _ _ _ _ _ _ _) | (with_reducible show IterF _ _ _ _ _ _ _ _ _ _ _) | (with_reducible show ForOut _ _ _ _ _ _ _ _ _))); first | (k_unfold; (try dsimp only)) | ((with_reducible refine fort_shape ?_); k_dflt (refine ForF2 (by k_asm) (by with_unfolding_all passes_own) ?_)) | ((with_reducible refine item_shape ?_); k_dflt (refine item_at (by k_asm) (by k_mem) (by assumption) (by first | (with_reducible exact Int.natCast_nonneg _) | (with_reducible assumption) | decide | omega) (by first | (with_reducible assumption) | decide | omega) ?_)) | ((with_reducible refine for_shape ?_); k_dflt (refine ForF (by k_asm) (by rfl) (by rfl) (by with_unfolding_all passes_own) ?_)) | ((with_reducible show wpAny _ _ (call (Value.builtin "len") [Value.ref _]) _ _ _); k_dflt (refine kst_len (by k_asm) (by k_mem) (by first | assumption | rfl) (by omega) ?_)) | ((with_reducible refine floordiv_int ?kbe ?_ (Or.inl (PyProof.noPylong_of_log2 ?kbp))); (case kbe => first | assumption | omega); (case kbp => assumption)) | walk1 | (dsimp only; walk1) | (leave1; (try dsimp only)) | fail "no step")
    refine Tell.goI (C := t_gcd _ _ _ _ _ _ _ _ _) (ret := ?_)
    intro t9 h9 tk9 F9 N9
    (try dsimp only)
    (try k_fold)
    repeat' ((fail_if_success (first | (with_reducible refine stop_slice ?_) | (with_reducible refine stop_cat ?_) | (with_reducible refine stop_ref ?_) | (with_reducible refine stop_lc ?_) | (with_reducible refine stop_alc ?_) | (with_reducible refine stop_zip ?_) | (with_reducible show IterE1 _ _ _ _ _ _ _ _ _ _ _ _ _ _ _) | (with_reducible show IterA1 _ _ _ _ _ _ _ _ _ _ _ _ _ _ _ _) | (with_reducible show CompOut _ _ _ _ _ _ _ _ _) | (with_reducible show IterF _ _ _ _ _ _ _ _ _ _ _) | (with_reducible show ForOut _ _ _ _ _ _ _ _ _))); first | (k_unfold; (try dsimp only)) | ((with_reducible refine fort_shape ?_); k_dflt (refine ForF2 (by k_asm) (by with_unfolding_all passes_own) ?_)) | ((with_reducible refine item_shape ?_); k_dflt (refine item_at (by k_asm) (by k_mem) (by assumption) (by first | (with_reducible exact Int.natCast_nonneg _) | (with_reducible assumption) | decide | omega) (by first | (with_reducible assumption) | decide | omega) ?_)) | ((with_reducible refine for_shape ?_); k_dflt (refine ForF (by k_asm) (by rfl) (by rfl) (by with_unfolding_all passes_own) ?_)) | ((with_reducible show wpAny _ _ (call (Value.builtin "len") [Value.ref _]) _ _ _); k_dflt (refine kst_len (by k_asm) (by k_mem) (by first | assumption | rfl) (by omega) ?_)) | ((with_reducible refine floordiv_int ?kbe ?_ (Or.inl (PyProof.noPylong_of_log2 ?kbp))); (case kbe => first | assumption | omega); (case kbp => assumption)) | walk1 | (dsimp only; walk1) | (leave1; (try dsimp only)) | fail "no step")
    exact forOut_same (by k_asm) (by k_asm) (fun _ h => h) ⟨rfl, _, _, by with_unfolding_all rfl, e2⟩
  · intro h tk m₁ led₁ hJ F1 N1
    refine hide fun H9 hH9 => ?_
    obtain ⟨rfl, z, tz, e1, e2⟩ := hJ
    rw [List.drop_of_length_le (cyc_len hP)] at e2
    have e3 : z = addUp gcdP (ps.zip (ps.drop 1 ++ ps.take 1)) := by rw [← e2]; show z = z + 0; omega
    have F4 := fr_known F1 e1
    subst e3
    refine hH9 ?_
    clear hH9 H9
    repeat' ((fail_if_success (first | (with_reducible refine stop_slice ?_) | (with_reducible refine stop_cat ?_) | (with_reducible refine stop_ref ?_) | (with_reducible refine stop_lc ?_) | (with_reducible refine stop_alc ?_) | (with_reducible refine stop_zip ?_) | (with_reducible show IterE1 _ _ _ _ _ _ _ _ _ _ _ _ _ _ _) | (with_reducible show IterA1 _ _ _ _ _ _ _ _ _ _ _ _ _ _ _ _) | (with_reducible show CompOut _ _ _ _ _ _ _ _ _) | (with_reducible show IterF _ _ _ _ _ _ _ _ _ _ _) | (with_reducible show ForOut _ _ _ _ _ _ _ _ _))); first | (k_unfold; (try dsimp only)) | ((with_reducible refine fort_shape ?_); k_dflt (refine ForF2 (by k_asm) (by with_unfolding_all passes_own) ?_)) | ((with_reducible refine item_shape ?_); k_dflt (refine item_at (by k_asm) (by k_mem) (by assumption) (by first | (with_reducible exact Int.natCast_nonneg _) | (with_reducible assumption) | decide | omega) (by first | (with_reducible assumption) | decide | omega) ?_)) | ((with_reducible refine for_shape ?_); k_dflt (refine ForF (by k_asm) (by rfl) (by rfl) (by with_unfolding_all passes_own) ?_)) | ((with_reducible show wpAny _ _ (call (Value.builtin "len") [Value.ref _]) _ _ _); k_dflt (refine kst_len (by k_asm) (by k_mem) (by first | assumption | rfl) (by omega) ?_)) | ((with_reducible refine floordiv_int ?kbe ?_ (Or.inl (PyProof.noPylong_of_log2 ?kbp))); (case kbe => first | assumption | omega); (case kbp => assumption)) | walk1 | (dsimp only; walk1) | (leave1; (try dsimp only)) | fail "no step")
    exact hret _ _ _ _ (by k_asm) (News.drop (by k_asm) fun p hp => List.mem_cons_of_mem _ hp) ⟨rfl, _, rfl⟩
theorem t_twice (w : World) (mean : ExcName → Option Value) (mg mb : Str → Option Value) (led : List (Addr × Obj)) (C : Addr) (ws : List Value) (kC : Nat) (ps : List Pt) (hc1 : 1 ≤ ws.length) (hcz : ws.length ≤ 100)
    (mC : (C, ({ cls := .type "list", data := .seq ws.toArray kC } : Obj)) ∈ led) (hP : Pts led ws ps) (hN : Near ps) :
    Tell w mean mg mb 157 12 led [.ref C] (fun led' r => led' = led ∧ ∃ t, r = .int (addUp detP (ps.zip (ps.drop 1 ++ ps.take 1))) t) := by
  intro dp un gd cn cs a₁ ccd cl outer A₀ base h₀ L m s Q E B F X N T hk hd hu hret
  have hcs : ws.length ≤ sizeLine := by rw [sizeLine_eq]; omega
  have hcs2 : (ws.drop 1).length + (ws.take 1).length ≤ sizeLine := by rw [sizeLine_eq, List.length_drop, List.length_take]; omega
  refine wpAny_call ?_
  k_dflt (refine' code_def (binds := [(Str.ofString "corners", .ref C)]) ?k1 ?k2 ?k3 ?k4 ?k5 ?kA ?kF ?kK ?k6 ?k7 ?k8 ?k9 ?kB ?_ ?c2 ?c3 ?c4 ?c5; (case kA => exact rfl); (case kF => exact rfl); (case kK => first | exact rfl | assumption); (case k1 => k_asm); (case k2 => k_asm); (case k3 => k_asm); (case k4 => k_asm); (case k5 => k_asm); (case k6 => k_is); (case k7 => k_is); (case k8 => ktr_room); (case k9 => exact BindsTo.of_eq rfl); (case c5 => decide); (case kB => exact locs rfl); (case c2 => exact rfl); (case c3 => exact rfl); (case c4 => exact rfl); k_whole; intro g' L' h' FG' F' N' B' X' T'; (try dsimp only); (try k_fold))
  repeat' ((fail_if_success (first | (with_reducible refine stop_slice ?_) | (with_reducible refine stop_cat ?_) | (with_reducible refine stop_ref ?_) | (with_reducible refine stop_lc ?_) | (with_reducible refine stop_alc ?_) | (with_reducible refine stop_zip ?_) | (with_reducible show IterE1 _ _ _ _ _ _ _ _ _ _ _ _ _ _ _) | (with_reducible show IterA1 _ _ _ _ _ _ _ _ _ _ _ _ _ _ _ _) | (with_reducible show CompOut _ _ _ _ _ _ _ _ _) | (with_reducible show IterF _ _ _ _ _ _ _ _ _ _ _) | (with_reducible show ForOut _ _ _ _ _ _ _ _ _))); first | (k_unfold; (try dsimp only)) | ((with_reducible refine fort_shape ?_); k_dflt (refine ForF2 (by k_asm) (by with_unfolding_all passes_own) ?_)) | ((with_reducible refine mul_int (hm := ?kbe) ?_); (case kbe => exact IntMulOk.of_left (dec_bits (by assumption) (by assumption)))) | ((with_reducible refine item_shape ?_); k_dflt (refine item_at (by k_asm) (by k_mem) (by assumption) (by first | (with_reducible exact Int.natCast_nonneg _) | (with_reducible assumption) | decide | omega) (by first | (with_reducible assumption) | decide | omega) ?_)) | ((with_reducible refine for_shape ?_); k_dflt (refine ForF (by k_asm) (by rfl) (by rfl) (by with_unfolding_all passes_own) ?_)) | ((with_reducible show wpAny _ _ (call (Value.builtin "len") [Value.ref _]) _ _ _); k_dflt (refine kst_len (by k_asm) (by k_mem) (by first | assumption | rfl) (by omega) ?_)) | ((with_reducible refine floordiv_int ?kbe ?_ (Or.inl (PyProof.noPylong_of_log2 ?kbp))); (case kbe => first | assumption | omega); (case kbp => assumption)) | walk1 | (dsimp only; walk1) | (leave1; (try dsimp only)) | fail "no step")
  refine from_at (by k_asm) (by k_asm) mC hc1 hcs (by kmk_part) (by kmk_part) ?_ (by with_unfolding_all rfl) (by kmk_pure)
  intro Da ha Fa Na la
  (try dsimp only)
  repeat' ((fail_if_success (first | (with_reducible refine stop_slice ?_) | (with_reducible refine stop_cat ?_) | (with_reducible refine stop_ref ?_) | (with_reducible refine stop_lc ?_) | (with_reducible refine stop_alc ?_) | (with_reducible refine stop_zip ?_) | (with_reducible show IterE1 _ _ _ _ _ _ _ _ _ _ _ _ _ _ _) | (with_reducible show IterA1 _ _ _ _ _ _ _ _ _ _ _ _ _ _ _ _) | (with_reducible show CompOut _ _ _ _ _ _ _ _ _) | (with_reducible show IterF _ _ _ _ _ _ _ _ _ _ _) | (with_reducible show ForOut _ _ _ _ _ _ _ _ _))); first | (k_unfold; (try dsimp only)) | ((with_reducible refine fort_shape ?_); k_dflt (refine ForF2 (by k_asm) (by with_unfolding_all passes_own) ?_)) | ((with_reducible refine mul_int (hm := ?kbe) ?_); (case kbe => exact IntMulOk.of_left (dec_bits (by assumption) (by assumption)))) | ((with_reducible refine item_shape ?_); k_dflt (refine item_at (by k_asm) (by k_mem) (by assumption) (by first | (with_reducible exact Int.natCast_nonneg _) | (with_reducible assumption) | decide | omega) (by first | (with_reducible assumption) | decide | omega) ?_)) | ((with_reducible refine for_shape ?_); k_dflt (refine ForF (by k_asm) (by rfl) (by rfl) (by with_unfolding_all passes_own) ?_)) | ((with_reducible show wpAny _ _ (call (Value.builtin "len") [Value.ref _]) _ _ _); k_dflt (refine kst_len (by k_asm) (by k_mem) (by first | assumption | rfl) (by omega) ?_)) | ((with_reducible refine floordiv_int ?kbe ?_ (Or.inl (PyProof.noPylong_of_log2 ?kbp))); (case kbe => first | assumption | omega); (case kbp => assumption)) | walk1 | (dsimp only; walk1) | (leave1; (try dsimp only)) | fail "no step")
  refine upto_at (by k_asm) (by k_asm) (List.mem_cons_of_mem _ mC) hc1 hcs (by kmk_part) (by kmk_part) ?_ (by with_unfolding_all rfl) (by kmk_pure)
  intro Db hb Fb Nb lb
  (try dsimp only)
  repeat' ((fail_if_success (first | (with_reducible refine stop_slice ?_) | (with_reducible refine stop_cat ?_) | (with_reducible refine stop_ref ?_) | (with_reducible refine stop_lc ?_) | (with_reducible refine stop_alc ?_) | (with_reducible refine stop_zip ?_) | (with_reducible show IterE1 _ _ _ _ _ _ _ _ _ _ _ _ _ _ _) | (with_reducible show IterA1 _ _ _ _ _ _ _ _ _ _ _ _ _ _ _ _) | (with_reducible show CompOut _ _ _ _ _ _ _ _ _) | (with_reducible show IterF _ _ _ _ _ _ _ _ _ _ _) | (with_reducible show ForOut _ _ _ _ _ _ _ _ _))); first | (k_unfold; (try dsimp only)) | ((with_reducible refine fort_shape ?_); k_dflt (refine ForF2 (by k_asm) (by with_unfolding_all passes_own) ?_)) | ((with_reducible refine mul_int (hm := ?kbe) ?_); (case kbe => exact IntMulOk.of_left (dec_bits (by assumption) (by assumption)))) | ((with_reducible refine item_shape ?_); k_dflt (refine item_at (by k_asm) (by k_mem) (by assumption) (by first | (with_reducible exact Int.natCast_nonneg _) | (with_reducible assumption) | decide | omega) (by first | (with_reducible assumption) | decide | omega) ?_)) | ((with_reducible refine for_shape ?_); k_dflt (refine ForF (by k_asm) (by rfl) (by rfl) (by with_unfolding_all passes_own) ?_)) | ((with_reducible show wpAny _ _ (call (Value.builtin "len") [Value.ref _]) _ _ _); k_dflt (refine kst_len (by k_asm) (by k_mem) (by first | assumption | rfl) (by omega) ?_)) | ((with_reducible refine floordiv_int ?kbe ?_ (Or.inl (PyProof.noPylong_of_log2 ?kbp))); (case kbe => first | assumption | omega); (case kbp => assumption)) | walk1 | (dsimp only; walk1) | (leave1; (try dsimp only)) | fail "no step")
  refine cat_at (by k_asm) (by k_asm) (List.mem_cons_of_mem _ List.mem_cons_self) List.mem_cons_self hcs2 ?_
  intro Dc hc Fc Nc lc
  (try dsimp only)
  repeat' ((fail_if_success (first | (with_reducible refine stop_slice ?_) | (with_reducible refine stop_cat ?_) | (with_reducible refine stop_ref ?_) | (with_reducible refine stop_lc ?_) | (with_reducible refine stop_alc ?_) | (with_reducible refine stop_zip ?_) | (with_reducible show IterE1 _ _ _ _ _ _ _ _ _ _ _ _ _ _ _) | (with_reducible show IterA1 _ _ _ _ _ _ _ _ _ _ _ _ _ _ _ _) | (with_reducible show CompOut _ _ _ _ _ _ _ _ _) | (with_reducible show IterF _ _ _ _ _ _ _ _ _ _ _) | (with_reducible show ForOut _ _ _ _ _ _ _ _ _))); first | (k_unfold; (try dsimp only)) | ((with_reducible refine fort_shape ?_); k_dflt (refine ForF2 (by k_asm) (by with_unfolding_all passes_own) ?_)) | ((with_reducible refine mul_int (hm := ?kbe) ?_); (case kbe => exact IntMulOk.of_left (dec_bits (by assumption) (by assumption)))) | ((with_reducible refine item_shape ?_); k_dflt (refine item_at (by k_asm) (by k_mem) (by assumption) (by first | (with_reducible exact Int.natCast_nonneg _) | (with_reducible assumption) | decide | omega) (by first | (with_reducible assumption) | decide | omega) ?_)) | ((with_reducible refine for_shape ?_); k_dflt (refine ForF (by k_asm) (by rfl) (by rfl) (by with_unfolding_all passes_own) ?_)) | ((with_reducible show wpAny _ _ (call (Value.builtin "len") [Value.ref _]) _ _ _); k_dflt (refine kst_len (by k_asm) (by k_mem) (by first | assumption | rfl) (by omega) ?_)) | ((with_reducible refine floordiv_int ?kbe ?_ (Or.inl (PyProof.noPylong_of_log2 ?kbp))); (case kbe => first | assumption | omega); (case kbp => assumption)) | walk1 | (dsimp only; walk1) | (leave1; (try dsimp only)) | fail "no step")
  have hP2 := hP.drop1.app hP.take1
  have ND' := Mine.News.keep1 (Mine.News.keep1 Nc)
  clear Na Nb Nc Fa Fb
  refine IterF2.zip rfl Fc ND' (l1 := C) (xs := ws) (ys := ws.drop 1 ++ ws.take 1) (List.mem_cons_of_mem _ mC) List.mem_cons_self (AddJ ((Dc, W.listOf (ws.drop 1 ++ ws.take 1).toArray 0) :: led) detP (ps.zip (ps.drop 1 ++ ps.take 1))) (by exact ⟨rfl, 0, _, by with_unfolding_all rfl, by rw [List.drop_zero, Int.zero_add]⟩) ?_ ?_
  · intro i v v₂ T2 m₁ led₁ own h tk hi hv hv₂ hJ hT2 F3 N3
    refine hide fun H9 hH9 => ?_
    obtain ⟨rfl, z, tz, e1, e2⟩ := hJ
    obtain ⟨a, x, y, t5, u5, rfl, ma, ga⟩ := hP.get hv
    obtain ⟨b, x', y', t6, u6, rfl, mb2, gb⟩ := hP2.get hv₂
    have F4 := fr_known F3 e1
    rw [addUp_drop (zip_get ga gb), ← Int.add_assoc] at e2
    obtain ⟨hn1, hn2, hn3, hn4⟩ := hN _ (List.mem_of_getElem? ga)
    have hgb : (x', y') ∈ ps := by
      rcases List.mem_append.mp (List.mem_of_getElem? gb) with hm | hm
      · exact List.mem_of_mem_drop hm
      · exact List.mem_of_mem_take hm
    obtain ⟨hn5, hn6, hn7, hn8⟩ := hN _ hgb
    dsimp only at hn1 hn2 hn3 hn4 hn5 hn6 hn7 hn8
    have hbig : (x * y' - y * x').natAbs < 10 ^ 9 := det_small hn1 hn2 hn3 hn4 hn5 hn6 hn7 hn8
    refine hH9 ?_
    clear hH9 H9
    clear F3 hi hv hv₂ Fc ND'
    repeat' ((fail_if_success (first | (with_reducible refine stop_slice ?_) | (with_reducible refine stop_cat ?_) | (with_reducible refine stop_ref ?_) | (with_reducible refine stop_lc ?_) | (with_reducible refine stop_alc ?_) | (with_reducible refine stop_zip ?_) | (with_reducible show IterE1 _ _ _ _ _ _ _ _ _ _ _ _ _ _ _) | (with_reducible show IterA1 _ _ _ _ _ _ _ _ _ _ _ _ _ _ _ _) | (with_reducible show CompOut _ _ _ _ _ _ _ _ _) | (with_reducible show IterF _ _ _ _ _ _ _ _ _ _ _) | (with_reducible show ForOut _ _ _ _ _ _ _ _ _))); first | (k_unfold; (try dsimp only)) | ((with_reducible refine fort_shape ?_); k_dflt (refine ForF2 (by k_asm) (by with_unfolding_all passes_own) ?_)) | ((with_reducible refine mul_int (hm := ?kbe) ?_); (case kbe => exact IntMulOk.of_left (dec_bits (by assumption) (by assumption)))) | ((with_reducible refine item_shape ?_); k_dflt (refine item_at (by k_asm) (by k_mem) (by assumption) (by first | (with_reducible exact Int.natCast_nonneg _) | (with_reducible assumption) | decide | omega) (by first | (with_reducible assumption) | decide | omega) ?_)) | ((with_reducible refine for_shape ?_); k_dflt (refine ForF (by k_asm) (by rfl) (by rfl) (by with_unfolding_all passes_own) ?_)) | ((with_reducible show wpAny _ _ (call (Value.builtin "len") [Value.ref _]) _ _ _); k_dflt (refine kst_len (by k_asm) (by k_mem) (by first | assumption | rfl) (by omega) ?_)) | ((with_reducible refine floordiv_int ?kbe ?_ (Or.inl (PyProof.noPylong_of_log2 ?kbp))); (case kbe => first | assumption | omega); (case kbp => assumption)) | walk1 | (dsimp only; walk1) | (leave1; (try dsimp only)) | fail "no step")
    rename_i D1 c1 H1 lD1 D2 c2 H2 lD2 G H3 FG3 NG3 lG
    refine Tell.goD (C := t_det w mean mg mb _ [[x, y], [x', y']] 2 10 (x * y' - y * x') G 0 [.ref D1, .ref D2] _ List.mem_cons_self (intRows2 (List.mem_cons_of_mem _ (List.mem_cons_of_mem _ List.mem_cons_self)) (List.mem_cons_of_mem _ List.mem_cons_self)) (by decide) rfl rows2_wide (by decide) (rows2_bits hn1 hn2 hn3 hn4 hn5 hn6 hn7 hn8) (by decide) (by decide) (det2_int x y x' y') hbig) (ret := ?_)
    intro y9 c i9 t9 u9 h9 tk9 l9 hc9 hi9 F9 N9
    (try dsimp only)
    repeat' ((fail_if_success (first | (with_reducible refine stop_slice ?_) | (with_reducible refine stop_cat ?_) | (with_reducible refine stop_ref ?_) | (with_reducible refine stop_lc ?_) | (with_reducible refine stop_alc ?_) | (with_reducible refine stop_zip ?_) | (with_reducible show IterE1 _ _ _ _ _ _ _ _ _ _ _ _ _ _ _) | (with_reducible show IterA1 _ _ _ _ _ _ _ _ _ _ _ _ _ _ _ _) | (with_reducible show CompOut _ _ _ _ _ _ _ _ _) | (with_reducible show IterF _ _ _ _ _ _ _ _ _ _ _) | (with_reducible show ForOut _ _ _ _ _ _ _ _ _))); first | (k_unfold; (try dsimp only)) | ((with_reducible refine fort_shape ?_); k_dflt (refine ForF2 (by k_asm) (by with_unfolding_all passes_own) ?_)) | ((with_reducible refine mul_int (hm := ?kbe) ?_); (case kbe => exact IntMulOk.of_left (dec_bits (by assumption) (by assumption)))) | ((with_reducible refine item_shape ?_); k_dflt (refine item_at (by k_asm) (by k_mem) (by assumption) (by first | (with_reducible exact Int.natCast_nonneg _) | (with_reducible assumption) | decide | omega) (by first | (with_reducible assumption) | decide | omega) ?_)) | ((with_reducible refine for_shape ?_); k_dflt (refine ForF (by k_asm) (by rfl) (by rfl) (by with_unfolding_all passes_own) ?_)) | ((with_reducible show wpAny _ _ (call (Value.builtin "len") [Value.ref _]) _ _ _); k_dflt (refine kst_len (by k_asm) (by k_mem) (by first | assumption | rfl) (by omega) ?_)) | ((with_reducible refine floordiv_int ?kbe ?_ (Or.inl (PyProof.noPylong_of_log2 ?kbp))); (case kbe => first | assumption | omega); (case kbp => assumption)) | walk1 | (dsimp only; walk1) | (leave1; (try dsimp only)) | fail "no step")
    refine forOut_same (by k_asm) (by k_asm) (fun p hp => ?_) ⟨rfl, _, _, by with_unfolding_all rfl, ?_⟩
    · exact List.mem_cons_of_mem _ (List.mem_cons_of_mem _ (List.mem_cons_of_mem _ (List.mem_cons_of_mem _ hp)))
    · rw [Int.toNat_natCast, hc9]
      exact e2
  · intro h tk m₁ led₁ hJ F1 N1
    refine hide fun H9 hH9 => ?_
    obtain ⟨rfl, z, tz, e1, e2⟩ := hJ
    rw [List.drop_of_length_le (cyc_len hP)] at e2
    have e3 : z = addUp detP (ps.zip (ps.drop 1 ++ ps.take 1)) := by rw [← e2]; show z = z + 0; omega
    have F4 := fr_known F1 e1
    subst e3
    refine hH9 ?_
    clear hH9 H9
    repeat' ((fail_if_success (first | (with_reducible refine stop_slice ?_) | (with_reducible refine stop_cat ?_) | (with_reducible refine stop_ref ?_) | (with_reducible refine stop_lc ?_) | (with_reducible refine stop_alc ?_) | (with_reducible refine stop_zip ?_) | (with_reducible show IterE1 _ _ _ _ _ _ _ _ _ _ _ _ _ _ _) | (with_reducible show IterA1 _ _ _ _ _ _ _ _ _ _ _ _ _ _ _ _) | (with_reducible show CompOut _ _ _ _ _ _ _ _ _) | (with_reducible show IterF _ _ _ _ _ _ _ _ _ _ _) | (with_reducible show ForOut _ _ _ _ _ _ _ _ _))); first | (k_unfold; (try dsimp only)) | ((with_reducible refine fort_shape ?_); k_dflt (refine ForF2 (by k_asm) (by with_unfolding_all passes_own) ?_)) | ((with_reducible refine mul_int (hm := ?kbe) ?_); (case kbe => exact IntMulOk.of_left (dec_bits (by assumption) (by assumption)))) | ((with_reducible refine item_shape ?_); k_dflt (refine item_at (by k_asm) (by k_mem) (by assumption) (by first | (with_reducible exact Int.natCast_nonneg _) | (with_reducible assumption) | decide | omega) (by first | (with_reducible assumption) | decide | omega) ?_)) | ((with_reducible refine for_shape ?_); k_dflt (refine ForF (by k_asm) (by rfl) (by rfl) (by with_unfolding_all passes_own) ?_)) | ((with_reducible show wpAny _ _ (call (Value.builtin "len") [Value.ref _]) _ _ _); k_dflt (refine kst_len (by k_asm) (by k_mem) (by first | assumption | rfl) (by omega) ?_)) | ((with_reducible refine floordiv_int ?kbe ?_ (Or.inl (PyProof.noPylong_of_log2 ?kbp))); (case kbe => first | assumption | omega); (case kbp => assumption)) | walk1 | (dsimp only; walk1) | (leave1; (try dsimp only)) | fail "no step")
    exact hret _ _ _ _ (by k_asm) (News.drop (by k_asm) fun p hp => List.mem_cons_of_mem _ hp) ⟨rfl, _, rfl⟩
def CountJ (led : List (Addr × Obj)) (c1 c2 : Addr) (lo hi : List (Pt × Pt)) (i : Nat) (m₁ : Str → Option Value) (led₁ : List (Addr × Obj)) : Prop := led₁ = led ∧ m₁ (Str.ofString "low") = some (.ref c1) ∧ m₁ (Str.ofString "high") = some (.ref c2) ∧ ∃ t u, m₁ (Str.ofString "within") = some (.int (allC lo hi i).1 t) ∧ m₁ (Str.ofString "upon") = some (.int (allC lo hi i).2 u)
def ColJ (led : List (Addr × Obj)) (c1 c2 : Addr) (lo hi : List (Pt × Pt)) (i : Nat) (ti : Tok) (s : Int × Int) (j : Nat) (m₁ : Str → Option Value) (led₁ : List (Addr × Obj)) : Prop := led₁ = led ∧ m₁ (Str.ofString "low") = some (.ref c1) ∧ m₁ (Str.ofString "high") = some (.ref c2) ∧ m₁ (Str.ofString "across") = some (.int i ti) ∧ ∃ t u, m₁ (Str.ofString "within") = some (.int (colC lo hi i j s).1 t) ∧ m₁ (Str.ofString "upon") = some (.int (colC lo hi i j s).2 u)
theorem t_counted (w : World) (mean : ExcName → Option Value) (mg mb : Str → Option Value) (led : List (Addr × Obj)) (C1 C2 p0 p1 p2 q0 q1 q2 : Addr) (k1 k2 : Nat) (ps qs : List Pt)
    (m1 : (C1, ({ cls := .type "list", data := .seq #[.ref p0, .ref p1, .ref p2] k1 } : Obj)) ∈ led) (hP : Pts led [.ref p0, .ref p1, .ref p2] ps) (hN : Near ps)
    (m2 : (C2, ({ cls := .type "list", data := .seq #[.ref q0, .ref q1, .ref q2] k2 } : Obj)) ∈ led) (hR : Pts led [.ref q0, .ref q1, .ref q2] qs) (hN2 : Near qs) :
    Tell w mean mg mb 178 4 led [.ref C1, .ref C2] (fun led' r => ∃ x t u, r = .ref x ∧ AllLt x led ∧ led' = (x, { cls := .type "tuple", data := .seq #[.int (allC (ps.zip (ps.drop 1)) (qs.zip (qs.drop 1)) 6).1 t, .int (allC (ps.zip (ps.drop 1)) (qs.zip (qs.drop 1)) 6).2 u] }) :: led) := by
  intro dp un gd cn cs a₁ ccd cl outer A₀ base h₀ L m s Q E B F X N T hk hd hu hret
  refine wpAny_call ?_
  k_dflt (refine' code_def (binds := [(Str.ofString "low", .ref C1), (Str.ofString "high", .ref C2)]) ?k1 ?k2 ?k3 ?k4 ?k5 ?kA ?kF ?kK ?k6 ?k7 ?k8 ?k9 ?kB ?_ ?c2 ?c3 ?c4 ?c5; (case kA => exact rfl); (case kF => exact rfl); (case kK => first | exact rfl | assumption); (case k1 => k_asm); (case k2 => k_asm); (case k3 => k_asm); (case k4 => k_asm); (case k5 => k_asm); (case k6 => k_is); (case k7 => k_is); (case k8 => ktr_room); (case k9 => exact BindsTo.of_eq rfl); (case c5 => decide); (case kB => exact locs rfl); (case c2 => exact rfl); (case c3 => exact rfl); (case c4 => exact rfl); k_whole; intro g' L' h' FG' F' N' B' X' T'; (try dsimp only); (try k_fold))
  repeat' ((fail_if_success (first | (with_reducible refine stop_ref ?_) | (with_reducible refine stop_lc ?_) | (with_reducible refine stop_alc ?_) | (with_reducible refine stop_zip ?_) | (with_reducible show IterE1 _ _ _ _ _ _ _ _ _ _ _ _ _ _ _) | (with_reducible show IterA1 _ _ _ _ _ _ _ _ _ _ _ _ _ _ _ _) | (with_reducible show CompOut _ _ _ _ _ _ _ _ _) | (with_reducible show IterF _ _ _ _ _ _ _ _ _ _ _) | (with_reducible show ForOut _ _ _ _ _ _ _ _ _))); first | (k_unfold; (try dsimp only)) | ((with_reducible refine item_shape ?_); k_dflt (refine item_at (by k_asm) (by k_mem) (by assumption) (by first | (with_reducible exact Int.natCast_nonneg _) | (with_reducible assumption) | decide | omega) (by first | (with_reducible assumption) | decide | omega) ?_)) | ((with_reducible refine for_shape ?_); k_dflt (refine ForF (by k_asm) (by rfl) (by rfl) (by with_unfolding_all passes_own) ?_)) | ((with_reducible show wpAny _ _ (call (Value.builtin "len") [Value.ref _]) _ _ _); k_dflt (refine kst_len (by k_asm) (by k_mem) (by first | assumption | rfl) (by omega) ?_)) | ((with_reducible refine floordiv_int ?kbe ?_ (Or.inl (PyProof.noPylong_of_log2 ?kbp))); (case kbe => first | assumption | omega); (case kbp => assumption)) | walk1 | (dsimp only; walk1) | (leave1; (try dsimp only)) | fail "no step")
  rename_i Dz H4 lz H3 H2 H1 FA NA H0 tk0 t1 u1 v1 hr FE NE hkE
  have NE' : News g' L' H0 led := fun p hp => NE p (List.mem_cons_of_mem _ hp)
  clear FA NA NE hkE
  obtain ⟨hsm, hn⟩ := small_of (a := 0) (b := 6) (n := 6) (by decide) (by decide) (by decide)
  refine IterF.hideQ fun Q9 hQ9 => ?_
  refine IterF.range rfl FE NE' hr hsm hn (CountJ led C1 C2 (ps.zip (ps.drop 1)) (qs.zip (qs.drop 1)))
    ⟨rfl, by with_unfolding_all rfl, by with_unfolding_all rfl, _, _, by with_unfolding_all rfl, by with_unfolding_all rfl⟩ ?_ ?_
  · intro i t m₁ led₁ own h tk hi hJ sep hown F1 N1
    refine hide fun H9 hH9 => ?_
    obtain ⟨rfl, e1, e2, tw, tu, e3, e4⟩ := hJ
    simp only [Int.zero_add] at F1
    have F2 := fr_known5 F1 (a := Str.ofString "low") (b := Str.ofString "high") (c := Str.ofString "within") (d := Str.ofString "upon") (e := Str.ofString "across") (by rw [if_neg (by decide)]; exact e1) (by rw [if_neg (by decide)]; exact e2) (by rw [if_neg (by decide)]; exact e3) (by rw [if_neg (by decide)]; exact e4) (by rw [if_pos rfl])
    refine hH9 ?_
    clear hH9 H9
    have N1' := N1
    clear F1 N1 FE NE' hr
    repeat' ((fail_if_success (first | (with_reducible refine stop_ref ?_) | (with_reducible refine stop_lc ?_) | (with_reducible refine stop_alc ?_) | (with_reducible refine stop_zip ?_) | (with_reducible show IterE1 _ _ _ _ _ _ _ _ _ _ _ _ _ _ _) | (with_reducible show IterA1 _ _ _ _ _ _ _ _ _ _ _ _ _ _ _ _) | (with_reducible show CompOut _ _ _ _ _ _ _ _ _) | (with_reducible show IterF _ _ _ _ _ _ _ _ _ _ _) | (with_reducible show ForOut _ _ _ _ _ _ _ _ _))); first | (k_unfold; (try dsimp only)) | ((with_reducible refine item_shape ?_); k_dflt (refine item_at (by k_asm) (by k_mem) (by assumption) (by first | (with_reducible exact Int.natCast_nonneg _) | (with_reducible assumption) | decide | omega) (by first | (with_reducible assumption) | decide | omega) ?_)) | ((with_reducible refine for_shape ?_); k_dflt (refine ForF (by k_asm) (by rfl) (by rfl) (by with_unfolding_all passes_own) ?_)) | ((with_reducible show wpAny _ _ (call (Value.builtin "len") [Value.ref _]) _ _ _); k_dflt (refine kst_len (by k_asm) (by k_mem) (by first | assumption | rfl) (by omega) ?_)) | ((with_reducible refine floordiv_int ?kbe ?_ (Or.inl (PyProof.noPylong_of_log2 ?kbp))); (case kbe => first | assumption | omega); (case kbp => assumption)) | walk1 | (dsimp only; walk1) | (leave1; (try dsimp only)) | fail "no step")
    rename_i hI tkI t2 u2 v2 hr2 FI NI hkI
    have hsm2 : Builtin.Range.small (0 - 3) 5 1 = true := by decide
    have hn2 : Builtin.Range.rangeSize (0 - 3) 5 1 = ((8 : Nat) : Int) := by decide
    refine IterF.hideQ fun Q8 hQ8 => ?_
    refine IterF.range rfl FI NI hr2 hsm2 hn2 (ColJ (own ++ led₁) C1 C2 (ps.zip (ps.drop 1)) (qs.zip (qs.drop 1)) i t (allC (ps.zip (ps.drop 1)) (qs.zip (qs.drop 1)) i))
      ⟨rfl, by with_unfolding_all rfl, by with_unfolding_all rfl, by with_unfolding_all rfl, _, _, by with_unfolding_all rfl, by with_unfolding_all rfl⟩ ?_ ?_
    · intro j tj m₂ led₂ own2 h2 tk2 hj hJ sep2 hown2 F3 N3
      refine hide fun H9 hH9 => ?_
      obtain ⟨rfl, d1, d2, d0, tw2, tu2, d3, d4⟩ := hJ
      generalize hq : colC (ps.zip (ps.drop 1)) (qs.zip (qs.drop 1)) (i : Int) j (allC (ps.zip (ps.drop 1)) (qs.zip (qs.drop 1)) i) = S at d3 d4
      obtain ⟨W0, U0⟩ := S
      dsimp only at d3 d4
      have F4 := fr_known5 F3 (a := Str.ofString "low") (b := Str.ofString "high") (c := Str.ofString "within") (d := Str.ofString "upon") (e := Str.ofString "across") (by rw [if_neg (by decide)]; exact d1) (by rw [if_neg (by decide)]; exact d2) (by rw [if_neg (by decide)]; exact d3) (by rw [if_neg (by decide)]; exact d4) (by rw [if_neg (by decide)]; exact d0)
      clear F3 FI NI hr2
      have hP' := hP.mono (led' := own2 ++ (own ++ led₁)) fun p hp => List.mem_append_right _ (List.mem_append_right _ hp)
      have hR' := hR.mono (led' := own2 ++ (own ++ led₁)) fun p hp => List.mem_append_right _ (List.mem_append_right _ hp)
      refine hH9 ?_
      clear hH9 H9
      have N3' := N3
      clear N3
      repeat' ((fail_if_success (first | (with_reducible refine stop_ref ?_) | (with_reducible refine stop_lc ?_) | (with_reducible refine stop_alc ?_) | (with_reducible refine stop_zip ?_) | (with_reducible show IterE1 _ _ _ _ _ _ _ _ _ _ _ _ _ _ _) | (with_reducible show IterA1 _ _ _ _ _ _ _ _ _ _ _ _ _ _ _ _) | (with_reducible show CompOut _ _ _ _ _ _ _ _ _) | (with_reducible show IterF _ _ _ _ _ _ _ _ _ _ _) | (with_reducible show ForOut _ _ _ _ _ _ _ _ _))); first | (k_unfold; (try dsimp only)) | ((with_reducible refine item_shape ?_); k_dflt (refine item_at (by k_asm) (by k_mem) (by assumption) (by first | (with_reducible exact Int.natCast_nonneg _) | (with_reducible assumption) | decide | omega) (by first | (with_reducible assumption) | decide | omega) ?_)) | ((with_reducible refine for_shape ?_); k_dflt (refine ForF (by k_asm) (by rfl) (by rfl) (by with_unfolding_all passes_own) ?_)) | ((with_reducible show wpAny _ _ (call (Value.builtin "len") [Value.ref _]) _ _ _); k_dflt (refine kst_len (by k_asm) (by k_mem) (by first | assumption | rfl) (by omega) ?_)) | ((with_reducible refine floordiv_int ?kbe ?_ (Or.inl (PyProof.noPylong_of_log2 ?kbp))); (case kbe => first | assumption | omega); (case kbp => assumption)) | walk1 | (dsimp only; walk1) | (leave1; (try dsimp only)) | fail "no step")
      refine Tell.goI (C := t_above _ _ _ _ _ _ _ _ _ _ _ _ _ _ _ (by k_mem) (by assumption) (by assumption) (by omega) (by omega)) (ret := ?_)
      intro t8 h8 tk8 F8 N8
      (try dsimp only)
      (try k_fold)
      repeat' ((fail_if_success (first | (with_reducible refine stop_ref ?_) | (with_reducible refine stop_lc ?_) | (with_reducible refine stop_alc ?_) | (with_reducible refine stop_zip ?_) | (with_reducible show IterE1 _ _ _ _ _ _ _ _ _ _ _ _ _ _ _) | (with_reducible show IterA1 _ _ _ _ _ _ _ _ _ _ _ _ _ _ _ _) | (with_reducible show CompOut _ _ _ _ _ _ _ _ _) | (with_reducible show IterF _ _ _ _ _ _ _ _ _ _ _) | (with_reducible show ForOut _ _ _ _ _ _ _ _ _))); first | (k_unfold; (try dsimp only)) | ((with_reducible refine item_shape ?_); k_dflt (refine item_at (by k_asm) (by k_mem) (by assumption) (by first | (with_reducible exact Int.natCast_nonneg _) | (with_reducible assumption) | decide | omega) (by first | (with_reducible assumption) | decide | omega) ?_)) | ((with_reducible refine for_shape ?_); k_dflt (refine ForF (by k_asm) (by rfl) (by rfl) (by with_unfolding_all passes_own) ?_)) | ((with_reducible show wpAny _ _ (call (Value.builtin "len") [Value.ref _]) _ _ _); k_dflt (refine kst_len (by k_asm) (by k_mem) (by first | assumption | rfl) (by omega) ?_)) | ((with_reducible refine floordiv_int ?kbe ?_ (Or.inl (PyProof.noPylong_of_log2 ?kbp))); (case kbe => first | assumption | omega); (case kbp => assumption)) | walk1 | (dsimp only; walk1) | (leave1; (try dsimp only)) | fail "no step")
      refine Tell.goI (C := t_above _ _ _ _ _ _ _ _ _ _ _ _ _ _ _ (by k_mem) (by assumption) (by assumption) (by omega) (by omega)) (ret := ?_)
      intro t7 h7 tk7 F7 N7
      (try dsimp only)
      (try k_fold)
      repeat' ((fail_if_success (first | (with_reducible refine stop_ref ?_) | (with_reducible refine stop_lc ?_) | (with_reducible refine stop_alc ?_) | (with_reducible refine stop_zip ?_) | (with_reducible show IterE1 _ _ _ _ _ _ _ _ _ _ _ _ _ _ _) | (with_reducible show IterA1 _ _ _ _ _ _ _ _ _ _ _ _ _ _ _ _) | (with_reducible show CompOut _ _ _ _ _ _ _ _ _) | (with_reducible show IterF _ _ _ _ _ _ _ _ _ _ _) | (with_reducible show ForOut _ _ _ _ _ _ _ _ _))); first | (k_unfold; (try dsimp only)) | ((with_reducible refine item_shape ?_); k_dflt (refine item_at (by k_asm) (by k_mem) (by assumption) (by first | (with_reducible exact Int.natCast_nonneg _) | (with_reducible assumption) | decide | omega) (by first | (with_reducible assumption) | decide | omega) ?_)) | ((with_reducible refine for_shape ?_); k_dflt (refine ForF (by k_asm) (by rfl) (by rfl) (by with_unfolding_all passes_own) ?_)) | ((with_reducible show wpAny _ _ (call (Value.builtin "len") [Value.ref _]) _ _ _); k_dflt (refine kst_len (by k_asm) (by k_mem) (by first | assumption | rfl) (by omega) ?_)) | ((with_reducible refine floordiv_int ?kbe ?_ (Or.inl (PyProof.noPylong_of_log2 ?kbp))); (case kbe => first | assumption | omega); (case kbp => assumption)) | walk1 | (dsimp only; walk1) | (leave1; (try dsimp only)) | fail "no step")
      all_goals first
        | (have hs : colC (ps.zip (ps.drop 1)) (qs.zip (qs.drop 1)) (i : Int) (j + 1) (allC (ps.zip (ps.drop 1)) (qs.zip (qs.drop 1)) i) = (W0, U0) := by
            show stepC (ps.zip (ps.drop 1)) (qs.zip (qs.drop 1)) _ _ (colC (ps.zip (ps.drop 1)) (qs.zip (qs.drop 1)) _ j _) = _
            rw [hq]; unfold stepC; rw [if_neg (by omega)]
           exact forOut_same (by k_asm) (by k_asm) (fun p hp => List.mem_cons_of_mem _ hp) ⟨rfl, by with_unfolding_all rfl, by with_unfolding_all rfl, by with_unfolding_all rfl, _, _, by rw [hs]; with_unfolding_all rfl, by rw [hs]; with_unfolding_all rfl⟩)
        | (have hs : colC (ps.zip (ps.drop 1)) (qs.zip (qs.drop 1)) (i : Int) (j + 1) (allC (ps.zip (ps.drop 1)) (qs.zip (qs.drop 1)) i) = (W0, U0 + 1) := by
            show stepC (ps.zip (ps.drop 1)) (qs.zip (qs.drop 1)) _ _ (colC (ps.zip (ps.drop 1)) (qs.zip (qs.drop 1)) _ j _) = _
            rw [hq]; unfold stepC; rw [if_pos (by omega), if_pos (by omega)]
           exact forOut_same (by k_asm) (by k_asm) (fun p hp => List.mem_cons_of_mem _ hp) ⟨rfl, by with_unfolding_all rfl, by with_unfolding_all rfl, by with_unfolding_all rfl, _, _, by rw [hs]; with_unfolding_all rfl, by rw [hs]; with_unfolding_all rfl⟩)
        | (have hs : colC (ps.zip (ps.drop 1)) (qs.zip (qs.drop 1)) (i : Int) (j + 1) (allC (ps.zip (ps.drop 1)) (qs.zip (qs.drop 1)) i) = (W0 + 1, U0) := by
            show stepC (ps.zip (ps.drop 1)) (qs.zip (qs.drop 1)) _ _ (colC (ps.zip (ps.drop 1)) (qs.zip (qs.drop 1)) _ j _) = _
            rw [hq]; unfold stepC; rw [if_pos (by omega), if_neg (by omega)]
           exact forOut_same (by k_asm) (by k_asm) (fun p hp => List.mem_cons_of_mem _ hp) ⟨rfl, by with_unfolding_all rfl, by with_unfolding_all rfl, by with_unfolding_all rfl, _, _, by rw [hs]; with_unfolding_all rfl, by rw [hs]; with_unfolding_all rfl⟩)
    · intro h2 tk2 m₂ led₂ hJ F3 N3
      refine hide fun H9 hH9 => ?_
      obtain ⟨rfl, d1, d2, d0, tw2, tu2, d3, d4⟩ := hJ
      refine hH9 ?_
      clear hH9 H9
      refine hQ8 _ _ ?_
      (try dsimp only)
      repeat' ((fail_if_success (first | (with_reducible refine stop_ref ?_) | (with_reducible refine stop_lc ?_) | (with_reducible refine stop_alc ?_) | (with_reducible refine stop_zip ?_) | (with_reducible show IterE1 _ _ _ _ _ _ _ _ _ _ _ _ _ _ _) | (with_reducible show IterA1 _ _ _ _ _ _ _ _ _ _ _ _ _ _ _ _) | (with_reducible show CompOut _ _ _ _ _ _ _ _ _) | (with_reducible show IterF _ _ _ _ _ _ _ _ _ _ _) | (with_reducible show ForOut _ _ _ _ _ _ _ _ _))); first | (k_unfold; (try dsimp only)) | ((with_reducible refine item_shape ?_); k_dflt (refine item_at (by k_asm) (by k_mem) (by assumption) (by first | (with_reducible exact Int.natCast_nonneg _) | (with_reducible assumption) | decide | omega) (by first | (with_reducible assumption) | decide | omega) ?_)) | ((with_reducible refine for_shape ?_); k_dflt (refine ForF (by k_asm) (by rfl) (by rfl) (by with_unfolding_all passes_own) ?_)) | ((with_reducible show wpAny _ _ (call (Value.builtin "len") [Value.ref _]) _ _ _); k_dflt (refine kst_len (by k_asm) (by k_mem) (by first | assumption | rfl) (by omega) ?_)) | ((with_reducible refine floordiv_int ?kbe ?_ (Or.inl (PyProof.noPylong_of_log2 ?kbp))); (case kbe => first | assumption | omega); (case kbp => assumption)) | walk1 | (dsimp only; walk1) | (leave1; (try dsimp only)) | fail "no step")
      exact forOut_same (by k_asm) (by k_asm) (fun _ h => h) ⟨rfl, d1, d2, tw2, tu2, d3, d4⟩
  · intro h tk m₁ led₁ hJ F1 N1
    refine hide fun H9 hH9 => ?_
    obtain ⟨rfl, e1, e2, tw, tu, e3, e4⟩ := hJ
    have F2 := fr_known (fr_known F1 e3) (x := Str.ofString "upon") (v := .int (allC (ps.zip (ps.drop 1)) (qs.zip (qs.drop 1)) 6).2 tu) (by rw [if_neg (by decide)]; exact e4)
    refine hH9 ?_
    clear hH9 H9
    clear F1
    refine hQ9 _ _ ?_
    (try dsimp only)
    repeat' ((fail_if_success (first | (with_reducible refine stop_ref ?_) | (with_reducible refine stop_lc ?_) | (with_reducible refine stop_alc ?_) | (with_reducible refine stop_zip ?_) | (with_reducible show IterE1 _ _ _ _ _ _ _ _ _ _ _ _ _ _ _) | (with_reducible show IterA1 _ _ _ _ _ _ _ _ _ _ _ _ _ _ _ _) | (with_reducible show CompOut _ _ _ _ _ _ _ _ _) | (with_reducible show IterF _ _ _ _ _ _ _ _ _ _ _) | (with_reducible show ForOut _ _ _ _ _ _ _ _ _))); first | (k_unfold; (try dsimp only)) | ((with_reducible refine item_shape ?_); k_dflt (refine item_at (by k_asm) (by k_mem) (by assumption) (by first | (with_reducible exact Int.natCast_nonneg _) | (with_reducible assumption) | decide | omega) (by first | (with_reducible assumption) | decide | omega) ?_)) | ((with_reducible refine for_shape ?_); k_dflt (refine ForF (by k_asm) (by rfl) (by rfl) (by with_unfolding_all passes_own) ?_)) | ((with_reducible show wpAny _ _ (call (Value.builtin "len") [Value.ref _]) _ _ _); k_dflt (refine kst_len (by k_asm) (by k_mem) (by first | assumption | rfl) (by omega) ?_)) | ((with_reducible refine floordiv_int ?kbe ?_ (Or.inl (PyProof.noPylong_of_log2 ?kbp))); (case kbe => first | assumption | omega); (case kbp => assumption)) | walk1 | (dsimp only; walk1) | (leave1; (try dsimp only)) | fail "no step")
    exact hret _ _ _ _ (by k_asm) (by k_asm) ⟨_, _, _, rfl, by ktn_lt, rfl⟩
theorem Tell.goIe {w : World} {mean : ExcName → Option Value} {mg mb : Str → Option Value} {fa : Addr} {need : Nat} {led : List (Addr × Obj)} {vs : List Value} {dp un : Nat} {gd : Option (List Code)} {cn : Str} {cs : Scope} {a : Addr} {ccd : Value} {cl : List (Str × Addr)} {outer : List Env} {A₀ : Around} {base h₀ : Heap} {L : Addr} {m : Str → Option Value} {s : Shared} {Q E : Value → Shared → Prop} {y z : Int} (e : y = z) (N : News h₀ L s.heap led := by k_asm) (B : Below A₀ base outer h₀ := by k_asm) (F : Fr h₀ L s.heap m := by k_asm) (X : (Mine.hd.heap_39 w.params).In h₀ := by k_asm) (T : TopP mean mg mb h₀ := by k_asm) (hk : cs.kind = .function := by first | exact rfl | assumption) (C : Tell w mean mg mb fa need led vs (fun led' r => led' = led ∧ ∃ t, r = .int y t))
    (ret : ∀ t h' tk', Fr h₀ L h' m → News h₀ L h' led → Q (.int z t) { s with heap := h', toks := tk' }) (hd : dp + need < recursionLimit := by first | decide | exact room1 (by assumption) (by decide) | ktr_room) (hu : un + 8 * need < cLine := by first | decide | exact units1 (by assumption) (by decide) | ktr_units) : wpAny (model PR w) (ktrTop dp un gd cn cs L a ccd cl outer) (call (.ref fa) vs) Q E s := by
  subst e
  exact Tell.goI N B F X T hk C ret hd hu
theorem Tell.goNe {w : World} {mean : ExcName → Option Value} {mg mb : Str → Option Value} {fa : Addr} {need : Nat} {led : List (Addr × Obj)} {vs : List Value} {dp un : Nat} {gd : Option (List Code)} {cn : Str} {cs : Scope} {a : Addr} {ccd : Value} {cl : List (Str × Addr)} {outer : List Env} {A₀ : Around} {base h₀ : Heap} {L : Addr} {m : Str → Option Value} {s : Shared} {Q E : Value → Shared → Prop} {y z : Int} {S : Int × Int} (e : S = (y, z)) (N : News h₀ L s.heap led := by k_asm) (B : Below A₀ base outer h₀ := by k_asm) (F : Fr h₀ L s.heap m := by k_asm) (X : (Mine.hd.heap_39 w.params).In h₀ := by k_asm) (T : TopP mean mg mb h₀ := by k_asm) (hk : cs.kind = .function := by first | exact rfl | assumption) (C : Tell w mean mg mb fa need led vs (fun led' r => ∃ x t1 t2, r = .ref x ∧ AllLt x led ∧ led' = (x, { cls := .type "tuple", data := .seq #[.int S.1 t1, .int S.2 t2] }) :: led))
    (ret : ∀ x t u h' tk', AllLt x led → Fr h₀ L h' m → News h₀ L h' ((x, { cls := .type "tuple", data := .seq #[.int y t, .int z u] }) :: led) → Q (.ref x) { s with heap := h', toks := tk' }) (hd : dp + need < recursionLimit := by first | decide | exact room1 (by assumption) (by decide) | ktr_room) (hu : un + 8 * need < cLine := by first | decide | exact units1 (by assumption) (by decide) | ktr_units) : wpAny (model PR w) (ktrTop dp un gd cn cs L a ccd cl outer) (call (.ref fa) vs) Q E s := by
  subst e
  exact Tell.goN N B F X T hk C ret hd hu
theorem Tell.goDraw {w : World} {mean : ExcName → Option Value} {mg mb : Str → Option Value} {fa : Addr} {need : Nat} {led : List (Addr × Obj)} {vs : List Value} {dp un : Nat} {gd : Option (List Code)} {cn : Str} {cs : Scope} {a : Addr} {ccd : Value} {cl : List (Str × Addr)} {outer : List Env} {A₀ : Around} {base h₀ : Heap} {L : Addr} {m : Str → Option Value} {s : Shared} {Q E : Value → Shared → Prop} {P Y : Addr} {i : Nat} {below : Int} {rest : List (Addr × Obj)} (N : News h₀ L s.heap led := by k_asm) (B : Below A₀ base outer h₀ := by k_asm) (F : Fr h₀ L s.heap m := by k_asm) (X : (Mine.hd.heap_39 w.params).In h₀ := by k_asm) (T : TopP mean mg mb h₀ := by k_asm) (hk : cs.kind = .function := by first | exact rfl | assumption) (C : Tell w mean mg mb fa need led vs (fun led' r => ∃ v t t' k', r = .int v t ∧ 0 ≤ v ∧ v < below ∧ led' = (P, { cls := .type "list", data := .seq (List.toArray [.ref Y, .int ((i + 1 : Nat) : Int) t']) k' }) :: rest))
    (ret : ∀ (d : Nat) t t' k' h' tk', (d : Int) < below → Fr h₀ L h' m → News h₀ L h' ((P, { cls := .type "list", data := .seq (List.toArray [.ref Y, .int ((i + 1 : Nat) : Int) t']) k' }) :: rest) → Q (.int (d : Nat) t) { s with heap := h', toks := tk' }) (hd : dp + need < recursionLimit := by first | decide | exact room1 (by assumption) (by decide) | ktr_room) (hu : un + 8 * need < cLine := by first | decide | exact units1 (by assumption) (by decide) | ktr_units) : wpAny (model PR w) (ktrTop dp un gd cn cs L a ccd cl outer) (call (.ref fa) vs) Q E s := Tell.use N B F X T hk C hd hu fun r led' h' tk' F' N' P => by
  obtain ⟨v, t, t', k', rfl, h0, h1, rfl⟩ := P
  obtain ⟨d, rfl⟩ := Int.eq_ofNat_of_zero_le h0
  exact ret d t t' k' h' tk' h1 F' N'
section
theorem fin1 : PySem.Challenge.rw_xm0049_01.Holds := by
  refine Mine.hd ?_
  k_go0
  refine hideQE fun Q0 E0 hQ0 _ => ?_
  repeat' ((fail_if_success (first | (with_reducible refine stop_ref ?_) | (with_reducible refine stop_lc ?_) | (with_reducible refine stop_alc ?_) | (with_reducible refine stop_zip ?_) | (with_reducible show IterE1 _ _ _ _ _ _ _ _ _ _ _ _ _ _ _) | (with_reducible show IterA1 _ _ _ _ _ _ _ _ _ _ _ _ _ _ _ _) | (with_reducible show CompOut _ _ _ _ _ _ _ _ _) | (with_reducible show IterF _ _ _ _ _ _ _ _ _ _ _) | (with_reducible show ForOut _ _ _ _ _ _ _ _ _))); first | (k_unfold; (try dsimp only)) | ((with_reducible refine item_shape ?_); k_dflt (refine item_at (by k_asm) (by k_mem) (by assumption) (by first | (with_reducible exact Int.natCast_nonneg _) | (with_reducible assumption) | decide | omega) (by first | (with_reducible assumption) | decide | omega) ?_)) | ((with_reducible refine for_shape ?_); k_dflt (refine ForF (by k_asm) (by rfl) (by rfl) (by with_unfolding_all passes_own) ?_)) | ((with_reducible show wpAny _ _ (call (Value.builtin "len") [Value.ref _]) _ _ _); k_dflt (refine kst_len (by k_asm) (by k_mem) (by first | assumption | rfl) (by omega) ?_)) | ((with_reducible refine floordiv_int ?kbe ?_ (Or.inl (PyProof.noPylong_of_log2 ?kbp))); (case kbe => first | assumption | omega); (case kbp => assumption)) | walk1 | (dsimp only; walk1) | (leave1; (try dsimp only)) | fail "no step")
  rename_i Dy ws hA hIs hCl hLl lDy Pb hB lPb hC oC0 FC NC dC
  refine Tell.goDraw (C := t_draw _ _ _ _ _ Pb Dy _ 0 ws _ 0 4 _ _ List.mem_cons_self (Ints.of hIs) (hoff0 Pb Dy _ _ _ lPb) (by omega) (by omega) (by decide)) (ret := ?_)
  intro o tv0 ti0 kP0 h1 tk1 hv0 F1 N1
  (try dsimp only)
  repeat' ((fail_if_success (first | (with_reducible refine stop_ref ?_) | (with_reducible refine stop_lc ?_) | (with_reducible refine stop_alc ?_) | (with_reducible refine stop_zip ?_) | (with_reducible show IterE1 _ _ _ _ _ _ _ _ _ _ _ _ _ _ _) | (with_reducible show IterA1 _ _ _ _ _ _ _ _ _ _ _ _ _ _ _ _) | (with_reducible show CompOut _ _ _ _ _ _ _ _ _) | (with_reducible show IterF _ _ _ _ _ _ _ _ _ _ _) | (with_reducible show ForOut _ _ _ _ _ _ _ _ _))); first | (k_unfold; (try dsimp only)) | ((with_reducible refine item_shape ?_); k_dflt (refine item_at (by k_asm) (by k_mem) (by assumption) (by first | (with_reducible exact Int.natCast_nonneg _) | (with_reducible assumption) | decide | omega) (by first | (with_reducible assumption) | decide | omega) ?_)) | ((with_reducible refine for_shape ?_); k_dflt (refine ForF (by k_asm) (by rfl) (by rfl) (by with_unfolding_all passes_own) ?_)) | ((with_reducible show wpAny _ _ (call (Value.builtin "len") [Value.ref _]) _ _ _); k_dflt (refine kst_len (by k_asm) (by k_mem) (by first | assumption | rfl) (by omega) ?_)) | ((with_reducible refine floordiv_int ?kbe ?_ (Or.inl (PyProof.noPylong_of_log2 ?kbp))); (case kbe => first | assumption | omega); (case kbp => assumption)) | walk1 | (dsimp only; walk1) | (leave1; (try dsimp only)) | fail "no step")
  refine Tell.goDraw (C := t_draw _ _ _ _ _ Pb Dy _ 0 ws _ 1 4 _ _ List.mem_cons_self (Ints.of hIs) (hoff0 Pb Dy _ _ _ lPb) (by omega) (by omega) (by decide)) (ret := ?_)
  intro o2 tv1 ti1 kP1 h2 tk2 hv1 F2 N2
  (try dsimp only)
  repeat' ((fail_if_success (first | (with_reducible refine stop_ref ?_) | (with_reducible refine stop_lc ?_) | (with_reducible refine stop_alc ?_) | (with_reducible refine stop_zip ?_) | (with_reducible show IterE1 _ _ _ _ _ _ _ _ _ _ _ _ _ _ _) | (with_reducible show IterA1 _ _ _ _ _ _ _ _ _ _ _ _ _ _ _ _) | (with_reducible show CompOut _ _ _ _ _ _ _ _ _) | (with_reducible show IterF _ _ _ _ _ _ _ _ _ _ _) | (with_reducible show ForOut _ _ _ _ _ _ _ _ _))); first | (k_unfold; (try dsimp only)) | ((with_reducible refine item_shape ?_); k_dflt (refine item_at (by k_asm) (by k_mem) (by assumption) (by first | (with_reducible exact Int.natCast_nonneg _) | (with_reducible assumption) | decide | omega) (by first | (with_reducible assumption) | decide | omega) ?_)) | ((with_reducible refine for_shape ?_); k_dflt (refine ForF (by k_asm) (by rfl) (by rfl) (by with_unfolding_all passes_own) ?_)) | ((with_reducible show wpAny _ _ (call (Value.builtin "len") [Value.ref _]) _ _ _); k_dflt (refine kst_len (by k_asm) (by k_mem) (by first | assumption | rfl) (by omega) ?_)) | ((with_reducible refine floordiv_int ?kbe ?_ (Or.inl (PyProof.noPylong_of_log2 ?kbp))); (case kbe => first | assumption | omega); (case kbp => assumption)) | walk1 | (dsimp only; walk1) | (leave1; (try dsimp only)) | fail "no step")
  k_dflt (refine ListComp1A (by k_asm) (by rfl) (by with_unfolding_all rfl) (by with_unfolding_all rfl) (by decide) (by rfl) (by decide) (by rfl) (by rfl) (by rfl) ?_)
  repeat' ((fail_if_success (first | (with_reducible refine stop_ref ?_) | (with_reducible refine stop_lc ?_) | (with_reducible refine stop_alc ?_) | (with_reducible refine stop_zip ?_) | (with_reducible show IterE1 _ _ _ _ _ _ _ _ _ _ _ _ _ _ _) | (with_reducible show IterA1 _ _ _ _ _ _ _ _ _ _ _ _ _ _ _ _) | (with_reducible show CompOut _ _ _ _ _ _ _ _ _) | (with_reducible show IterF _ _ _ _ _ _ _ _ _ _ _) | (with_reducible show ForOut _ _ _ _ _ _ _ _ _))); first | (k_unfold; (try dsimp only)) | ((with_reducible refine item_shape ?_); k_dflt (refine item_at (by k_asm) (by k_mem) (by assumption) (by first | (with_reducible exact Int.natCast_nonneg _) | (with_reducible assumption) | decide | omega) (by first | (with_reducible assumption) | decide | omega) ?_)) | ((with_reducible refine for_shape ?_); k_dflt (refine ForF (by k_asm) (by rfl) (by rfl) (by with_unfolding_all passes_own) ?_)) | ((with_reducible show wpAny _ _ (call (Value.builtin "len") [Value.ref _]) _ _ _); k_dflt (refine kst_len (by k_asm) (by k_mem) (by first | assumption | rfl) (by omega) ?_)) | ((with_reducible refine floordiv_int ?kbe ?_ (Or.inl (PyProof.noPylong_of_log2 ?kbp))); (case kbe => first | assumption | omega); (case kbp => assumption)) | walk1 | (dsimp only; walk1) | (leave1; (try dsimp only)) | fail "no step")
  rename_i X1 hX1 FX NX lX
  have NX' := Mine.News.pick NX
  clear NX
  refine IterA1.drawn (fun d => 0 - d) rfl FX NX' List.mem_cons_self (Ne.symm (Nat.ne_of_lt lX.2.1)) (own_one (off3 lX.2.1 lPb.1 lPb.2)) ?_ ?_
  · intro i z tz own C oC m₂ h tk9 E' tl tI kI hi hz hC hns hxx hoff FV NV
    clear NX' FX
    repeat' ((fail_if_success (first | (with_reducible refine stop_ref ?_) | (with_reducible refine stop_lc ?_) | (with_reducible refine stop_alc ?_) | (with_reducible refine stop_zip ?_) | (with_reducible show IterE1 _ _ _ _ _ _ _ _ _ _ _ _ _ _ _) | (with_reducible show IterA1 _ _ _ _ _ _ _ _ _ _ _ _ _ _ _ _) | (with_reducible show CompOut _ _ _ _ _ _ _ _ _) | (with_reducible show IterF _ _ _ _ _ _ _ _ _ _ _) | (with_reducible show ForOut _ _ _ _ _ _ _ _ _))); first | (k_unfold; (try dsimp only)) | ((with_reducible refine item_shape ?_); k_dflt (refine item_at (by k_asm) (by k_mem) (by assumption) (by first | (with_reducible exact Int.natCast_nonneg _) | (with_reducible assumption) | decide | omega) (by first | (with_reducible assumption) | decide | omega) ?_)) | ((with_reducible refine for_shape ?_); k_dflt (refine ForF (by k_asm) (by rfl) (by rfl) (by with_unfolding_all passes_own) ?_)) | ((with_reducible show wpAny _ _ (call (Value.builtin "len") [Value.ref _]) _ _ _); k_dflt (refine kst_len (by k_asm) (by k_mem) (by first | assumption | rfl) (by omega) ?_)) | ((with_reducible refine floordiv_int ?kbe ?_ (Or.inl (PyProof.noPylong_of_log2 ?kbp))); (case kbe => first | assumption | omega); (case kbp => assumption)) | walk1 | (dsimp only; walk1) | (leave1; (try dsimp only)) | fail "no step")
    refine Tell.goDraw (C := t_draw _ _ _ _ _ Pb Dy _ 0 ws _ (2 + i) 4 _ _ (List.mem_append_right _ (List.mem_append_right _ (by k_mem))) (Ints.of hIs) hoff (by omega) (by omega) (by decide)) (ret := ?_)
    intro d tv3 ti3 kP3 h3 tk3 hd3 F3 N3
    (try dsimp only)
    repeat' ((fail_if_success (first | (with_reducible refine stop_ref ?_) | (with_reducible refine stop_lc ?_) | (with_reducible refine stop_alc ?_) | (with_reducible refine stop_zip ?_) | (with_reducible show IterE1 _ _ _ _ _ _ _ _ _ _ _ _ _ _ _) | (with_reducible show IterA1 _ _ _ _ _ _ _ _ _ _ _ _ _ _ _ _) | (with_reducible show CompOut _ _ _ _ _ _ _ _ _) | (with_reducible show IterF _ _ _ _ _ _ _ _ _ _ _) | (with_reducible show ForOut _ _ _ _ _ _ _ _ _))); first | (k_unfold; (try dsimp only)) | ((with_reducible refine item_shape ?_); k_dflt (refine item_at (by k_asm) (by k_mem) (by assumption) (by first | (with_reducible exact Int.natCast_nonneg _) | (with_reducible assumption) | decide | omega) (by first | (with_reducible assumption) | decide | omega) ?_)) | ((with_reducible refine for_shape ?_); k_dflt (refine ForF (by k_asm) (by rfl) (by rfl) (by with_unfolding_all passes_own) ?_)) | ((with_reducible show wpAny _ _ (call (Value.builtin "len") [Value.ref _]) _ _ _); k_dflt (refine kst_len (by k_asm) (by k_mem) (by first | assumption | rfl) (by omega) ?_)) | ((with_reducible refine floordiv_int ?kbe ?_ (Or.inl (PyProof.noPylong_of_log2 ?kbp))); (case kbe => first | assumption | omega); (case kbp => assumption)) | walk1 | (dsimp only; walk1) | (leave1; (try dsimp only)) | fail "no step")
    exact ⟨_, d, _, _, _, _, _, _, rfl, rfl, by omega, by assumption, by k_asm, by k_asm⟩
  · intro D p0 p1 p2 a0 a1 a2 tl tI kI h9 tk9 ha0 ha1 ha2 FV NV hpt htl hPD hlt
    clear NX' FX
    (try dsimp only)
    repeat' ((fail_if_success (first | (with_reducible refine stop_ref ?_) | (with_reducible refine stop_lc ?_) | (with_reducible refine stop_alc ?_) | (with_reducible refine stop_zip ?_) | (with_reducible show IterE1 _ _ _ _ _ _ _ _ _ _ _ _ _ _ _) | (with_reducible show IterA1 _ _ _ _ _ _ _ _ _ _ _ _ _ _ _ _) | (with_reducible show CompOut _ _ _ _ _ _ _ _ _) | (with_reducible show IterF _ _ _ _ _ _ _ _ _ _ _) | (with_reducible show ForOut _ _ _ _ _ _ _ _ _))); first | (k_unfold; (try dsimp only)) | ((with_reducible refine item_shape ?_); k_dflt (refine item_at (by k_asm) (by k_mem) (by assumption) (by first | (with_reducible exact Int.natCast_nonneg _) | (with_reducible assumption) | decide | omega) (by first | (with_reducible assumption) | decide | omega) ?_)) | ((with_reducible refine for_shape ?_); k_dflt (refine ForF (by k_asm) (by rfl) (by rfl) (by with_unfolding_all passes_own) ?_)) | ((with_reducible show wpAny _ _ (call (Value.builtin "len") [Value.ref _]) _ _ _); k_dflt (refine kst_len (by k_asm) (by k_mem) (by first | assumption | rfl) (by omega) ?_)) | ((with_reducible refine floordiv_int ?kbe ?_ (Or.inl (PyProof.noPylong_of_log2 ?kbp))); (case kbe => first | assumption | omega); (case kbp => assumption)) | walk1 | (dsimp only; walk1) | (leave1; (try dsimp only)) | fail "no step")
    k_dflt (refine ListComp1A (by k_asm) (by rfl) (by with_unfolding_all rfl) (by with_unfolding_all rfl) (by decide) (by rfl) (by decide) (by rfl) (by rfl) (by rfl) ?_)
    repeat' ((fail_if_success (first | (with_reducible refine stop_ref ?_) | (with_reducible refine stop_lc ?_) | (with_reducible refine stop_alc ?_) | (with_reducible refine stop_zip ?_) | (with_reducible show IterE1 _ _ _ _ _ _ _ _ _ _ _ _ _ _ _) | (with_reducible show IterA1 _ _ _ _ _ _ _ _ _ _ _ _ _ _ _ _) | (with_reducible show CompOut _ _ _ _ _ _ _ _ _) | (with_reducible show IterF _ _ _ _ _ _ _ _ _ _ _) | (with_reducible show ForOut _ _ _ _ _ _ _ _ _))); first | (k_unfold; (try dsimp only)) | ((with_reducible refine item_shape ?_); k_dflt (refine item_at (by k_asm) (by k_mem) (by assumption) (by first | (with_reducible exact Int.natCast_nonneg _) | (with_reducible assumption) | decide | omega) (by first | (with_reducible assumption) | decide | omega) ?_)) | ((with_reducible refine for_shape ?_); k_dflt (refine ForF (by k_asm) (by rfl) (by rfl) (by with_unfolding_all passes_own) ?_)) | ((with_reducible show wpAny _ _ (call (Value.builtin "len") [Value.ref _]) _ _ _); k_dflt (refine kst_len (by k_asm) (by k_mem) (by first | assumption | rfl) (by omega) ?_)) | ((with_reducible refine floordiv_int ?kbe ?_ (Or.inl (PyProof.noPylong_of_log2 ?kbp))); (case kbe => first | assumption | omega); (case kbp => assumption)) | walk1 | (dsimp only; walk1) | (leave1; (try dsimp only)) | fail "no step")
    (try clear FV); (try clear NV)
    rename_i X2 hX2 FX NX lX2
    have NX' := Mine.News.pull NX
    clear NX
    have lX2' : @LT.lt Nat _ Pb X2 := Nat.lt_trans hPD lX2.1
    refine IterA1.drawn (fun d => 1 + d) rfl FX NX' List.mem_cons_self (Ne.symm (Nat.ne_of_lt lX2')) (own_one (off_more lX2' hPD htl (off3 lX.2.1 lPb.1 lPb.2))) ?_ ?_
    · intro i z tz own C oC m₂ h tk8 E' tl2 tI2 kI2 hi hz hC hns hxx hoff FV NV
      clear NX' FX
      repeat' ((fail_if_success (first | (with_reducible refine stop_ref ?_) | (with_reducible refine stop_lc ?_) | (with_reducible refine stop_alc ?_) | (with_reducible refine stop_zip ?_) | (with_reducible show IterE1 _ _ _ _ _ _ _ _ _ _ _ _ _ _ _) | (with_reducible show IterA1 _ _ _ _ _ _ _ _ _ _ _ _ _ _ _ _) | (with_reducible show CompOut _ _ _ _ _ _ _ _ _) | (with_reducible show IterF _ _ _ _ _ _ _ _ _ _ _) | (with_reducible show ForOut _ _ _ _ _ _ _ _ _))); first | (k_unfold; (try dsimp only)) | ((with_reducible refine item_shape ?_); k_dflt (refine item_at (by k_asm) (by k_mem) (by assumption) (by first | (with_reducible exact Int.natCast_nonneg _) | (with_reducible assumption) | decide | omega) (by first | (with_reducible assumption) | decide | omega) ?_)) | ((with_reducible refine for_shape ?_); k_dflt (refine ForF (by k_asm) (by rfl) (by rfl) (by with_unfolding_all passes_own) ?_)) | ((with_reducible show wpAny _ _ (call (Value.builtin "len") [Value.ref _]) _ _ _); k_dflt (refine kst_len (by k_asm) (by k_mem) (by first | assumption | rfl) (by omega) ?_)) | ((with_reducible refine floordiv_int ?kbe ?_ (Or.inl (PyProof.noPylong_of_log2 ?kbp))); (case kbe => first | assumption | omega); (case kbp => assumption)) | walk1 | (dsimp only; walk1) | (leave1; (try dsimp only)) | fail "no step")
      refine Tell.goDraw (C := t_draw _ _ _ _ _ Pb Dy _ 0 ws _ (5 + i) 4 _ _ (List.mem_append_right _ (List.mem_append_right _ (List.mem_cons_of_mem _ (List.mem_cons_of_mem _ (List.mem_append_right _ (by k_mem)))))) (Ints.of hIs) hoff (by omega) (by omega) (by decide)) (ret := ?_)
      intro d tv3 ti3 kP3 h3 tk3 hd3 F3 N3
      (try dsimp only)
      repeat' ((fail_if_success (first | (with_reducible refine stop_ref ?_) | (with_reducible refine stop_lc ?_) | (with_reducible refine stop_alc ?_) | (with_reducible refine stop_zip ?_) | (with_reducible show IterE1 _ _ _ _ _ _ _ _ _ _ _ _ _ _ _) | (with_reducible show IterA1 _ _ _ _ _ _ _ _ _ _ _ _ _ _ _ _) | (with_reducible show CompOut _ _ _ _ _ _ _ _ _) | (with_reducible show IterF _ _ _ _ _ _ _ _ _ _ _) | (with_reducible show ForOut _ _ _ _ _ _ _ _ _))); first | (k_unfold; (try dsimp only)) | ((with_reducible refine item_shape ?_); k_dflt (refine item_at (by k_asm) (by k_mem) (by assumption) (by first | (with_reducible exact Int.natCast_nonneg _) | (with_reducible assumption) | decide | omega) (by first | (with_reducible assumption) | decide | omega) ?_)) | ((with_reducible refine for_shape ?_); k_dflt (refine ForF (by k_asm) (by rfl) (by rfl) (by with_unfolding_all passes_own) ?_)) | ((with_reducible show wpAny _ _ (call (Value.builtin "len") [Value.ref _]) _ _ _); k_dflt (refine kst_len (by k_asm) (by k_mem) (by first | assumption | rfl) (by omega) ?_)) | ((with_reducible refine floordiv_int ?kbe ?_ (Or.inl (PyProof.noPylong_of_log2 ?kbp))); (case kbe => first | assumption | omega); (case kbp => assumption)) | walk1 | (dsimp only; walk1) | (leave1; (try dsimp only)) | fail "no step")
      exact ⟨_, d, _, _, _, _, _, _, rfl, rfl, by omega, by assumption, by k_asm, by k_asm⟩
    · intro D2 q0 q1 q2 b0 b1 b2 tl2 tI2 kI2 h8 tk8 hb0 hb1 hb2 FV NV hpt2 htl2 hPD2 hlt2
      have NW := Mine.News.two NV
      have hPl := hpt.mono (led' := tl2 ++ tl) fun p hp => List.mem_append_right _ hp
      have hPh := hpt2.mono (led' := tl2 ++ tl) fun p hp => List.mem_append_left _ hp
      have hDD : @LT.lt Nat _ D D2 := hlt2 _ (List.mem_cons_of_mem _ List.mem_cons_self)
      clear NX' FX NV hpt hpt2 htl htl2 hPD2 hlt hlt2 lX2 lX2' hPD lX
      generalize tl2 ++ tl = R at NW hPl hPh
      have ho4 : o < 4 := by omega
      have hp4 : o2 < 4 := by omega
      have hrev := Mine.pts_rev hPh
      have hcor := hPl.app hrev
      have hpa0 := Mine.pts_part0 hPl hPh
      have hpa1 := Mine.pts_part1 hPl hPh
      refine hide fun H9 hH9 => ?_
      obtain ⟨W, U, hC, hT, hB, hAA, hA0, hA1, hI⟩ := law1_plain (o := o) (p := o2) ho4 hp4 ha0 ha1 ha2 hb0 hb1 hb2
      generalize hTn : addUp detP (cyc (cornersP o o2 a0 a1 a2 b0 b1 b2)) = T at hT hAA
      generalize hA0n : addUp detP (cyc (part0 o o2 a0 a1 b0 b1)) = A0 at hAA hA0 hI
      generalize hA1n : addUp detP (cyc (part1 o o2 a1 a2 b1 b2)) = A1 at hAA hA1 hI
      generalize hB0n : addUp gcdP (cyc (part0 o o2 a0 a1 b0 b1)) = B0 at hI
      generalize hB1n : addUp gcdP (cyc (part1 o o2 a1 a2 b1 b2)) = B1 at hI
      refine hH9 ?_
      clear hH9 H9
      (try dsimp only)
      repeat' ((fail_if_success (first | (with_reducible refine stop_ref ?_) | (with_reducible refine stop_lc ?_) | (with_reducible refine stop_alc ?_) | (with_reducible refine stop_zip ?_) | (with_reducible show IterE1 _ _ _ _ _ _ _ _ _ _ _ _ _ _ _) | (with_reducible show IterA1 _ _ _ _ _ _ _ _ _ _ _ _ _ _ _ _) | (with_reducible show CompOut _ _ _ _ _ _ _ _ _) | (with_reducible show IterF _ _ _ _ _ _ _ _ _ _ _) | (with_reducible show ForOut _ _ _ _ _ _ _ _ _))); first | (k_unfold; (try dsimp only)) | ((with_reducible refine item_shape ?_); k_dflt (refine item_at (by k_asm) (by k_mem) (by assumption) (by first | (with_reducible exact Int.natCast_nonneg _) | (with_reducible assumption) | decide | omega) (by first | (with_reducible assumption) | decide | omega) ?_)) | ((with_reducible refine for_shape ?_); k_dflt (refine ForF (by k_asm) (by rfl) (by rfl) (by with_unfolding_all passes_own) ?_)) | ((with_reducible show wpAny _ _ (call (Value.builtin "len") [Value.ref _]) _ _ _); k_dflt (refine kst_len (by k_asm) (by k_mem) (by first | assumption | rfl) (by omega) ?_)) | ((with_reducible refine floordiv_int ?kbe ?_ (Or.inl (PyProof.noPylong_of_log2 ?kbp))); (case kbe => first | assumption | omega); (case kbp => assumption)) | walk1 | (dsimp only; walk1) | (leave1; (try dsimp only)) | fail "no step")
      rename_i X3 hX3 l3 X4 hX4 l4 h5 F5 N5
      refine Tell.goNe hC (C := t_counted _ _ _ _ _ D D2 p0 p1 p2 q0 q1 q2 _ _ _ _ (by k_mem) (hPl.mono fun p hp => by repeat (first | assumption | refine List.mem_cons_of_mem _ ?_)) (Near.mk near_c0 (near_dn ha0) (Near.mk (near_up ho4) (near_dn ha1) (Near.mk near_c5 (near_dn ha2) Near.nil))) (by k_mem) (hPh.mono fun p hp => by repeat (first | assumption | refine List.mem_cons_of_mem _ ?_)) (Near.mk near_c0 (near_up hb0) (Near.mk (near_up hp4) (near_up hb1) (Near.mk near_c5 (near_up hb2) Near.nil)))) (ret := ?_)
      intro X5 t5 u5 h6 tk6 l5 F6 N6
      have N6' := Mine.News.skip3 N6
      clear N6 l5 l3 l4
      (try clear F5); (try clear N5)
      (try dsimp only)
      repeat' ((fail_if_success (first | (with_reducible refine stop_ref ?_) | (with_reducible refine stop_lc ?_) | (with_reducible refine stop_alc ?_) | (with_reducible refine stop_zip ?_) | (with_reducible show IterE1 _ _ _ _ _ _ _ _ _ _ _ _ _ _ _) | (with_reducible show IterA1 _ _ _ _ _ _ _ _ _ _ _ _ _ _ _ _) | (with_reducible show CompOut _ _ _ _ _ _ _ _ _) | (with_reducible show IterF _ _ _ _ _ _ _ _ _ _ _) | (with_reducible show ForOut _ _ _ _ _ _ _ _ _))); first | (k_unfold; (try dsimp only)) | ((with_reducible refine item_shape ?_); k_dflt (refine item_at (by k_asm) (by k_mem) (by assumption) (by first | (with_reducible exact Int.natCast_nonneg _) | (with_reducible assumption) | decide | omega) (by first | (with_reducible assumption) | decide | omega) ?_)) | ((with_reducible refine for_shape ?_); k_dflt (refine ForF (by k_asm) (by rfl) (by rfl) (by with_unfolding_all passes_own) ?_)) | ((with_reducible show wpAny _ _ (call (Value.builtin "len") [Value.ref _]) _ _ _); k_dflt (refine kst_len (by k_asm) (by k_mem) (by first | assumption | rfl) (by omega) ?_)) | ((with_reducible refine floordiv_int ?kbe ?_ (Or.inl (PyProof.noPylong_of_log2 ?kbp))); (case kbe => first | assumption | omega); (case kbp => assumption)) | walk1 | (dsimp only; walk1) | (leave1; (try dsimp only)) | fail "no step")
      refine Tell.goIe hTn (C := t_twice _ _ _ _ _ X4 [.ref p0, .ref p1, .ref p2, .ref q2, .ref q1, .ref q0] _ (cornersP o o2 a0 a1 a2 b0 b1 b2) (show 1 ≤ 6 by decide) (show 6 ≤ 100 by decide) (by k_mem) (hcor.mono fun p hp => by repeat (first | assumption | refine List.mem_cons_of_mem _ ?_)) (Near.mk near_c0 (near_dn ha0) (Near.mk (near_up ho4) (near_dn ha1) (Near.mk near_c5 (near_dn ha2) (Near.mk near_c5 (near_up hb2) (Near.mk (near_up hp4) (near_up hb1) (Near.mk near_c0 (near_up hb0) Near.nil))))))) (ret := ?_)
      intro t7 h7 tk7 F7 N7
      (try dsimp only)
      repeat' ((fail_if_success (first | (with_reducible refine stop_ref ?_) | (with_reducible refine stop_lc ?_) | (with_reducible refine stop_alc ?_) | (with_reducible refine stop_zip ?_) | (with_reducible show IterE1 _ _ _ _ _ _ _ _ _ _ _ _ _ _ _) | (with_reducible show IterA1 _ _ _ _ _ _ _ _ _ _ _ _ _ _ _ _) | (with_reducible show CompOut _ _ _ _ _ _ _ _ _) | (with_reducible show IterF _ _ _ _ _ _ _ _ _ _ _) | (with_reducible show ForOut _ _ _ _ _ _ _ _ _))); first | (k_unfold; (try dsimp only)) | ((with_reducible refine item_shape ?_); k_dflt (refine item_at (by k_asm) (by k_mem) (by assumption) (by first | (with_reducible exact Int.natCast_nonneg _) | (with_reducible assumption) | decide | omega) (by first | (with_reducible assumption) | decide | omega) ?_)) | ((with_reducible refine for_shape ?_); k_dflt (refine ForF (by k_asm) (by rfl) (by rfl) (by with_unfolding_all passes_own) ?_)) | ((with_reducible show wpAny _ _ (call (Value.builtin "len") [Value.ref _]) _ _ _); k_dflt (refine kst_len (by k_asm) (by k_mem) (by first | assumption | rfl) (by omega) ?_)) | ((with_reducible refine floordiv_int ?kbe ?_ (Or.inl (PyProof.noPylong_of_log2 ?kbp))); (case kbe => first | assumption | omega); (case kbp => assumption)) | walk1 | (dsimp only; walk1) | (leave1; (try dsimp only)) | fail "no step")
      · exfalso; omega
      refine Tell.goIe hB (C := t_border _ _ _ _ _ X4 [.ref p0, .ref p1, .ref p2, .ref q2, .ref q1, .ref q0] _ (cornersP o o2 a0 a1 a2 b0 b1 b2) (show 1 ≤ 6 by decide) (show 6 ≤ 100 by decide) (by k_mem) (hcor.mono fun p hp => by repeat (first | assumption | refine List.mem_cons_of_mem _ ?_)) (Near.mk near_c0 (near_dn ha0) (Near.mk (near_up ho4) (near_dn ha1) (Near.mk near_c5 (near_dn ha2) (Near.mk near_c5 (near_up hb2) (Near.mk (near_up hp4) (near_up hb1) (Near.mk near_c0 (near_up hb0) Near.nil))))))) (ret := ?_)
      intro t8 h8 tk8 F8 N8
      (try dsimp only)
      repeat' ((fail_if_success (first | (with_reducible refine stop_ref ?_) | (with_reducible refine stop_lc ?_) | (with_reducible refine stop_alc ?_) | (with_reducible refine stop_zip ?_) | (with_reducible show IterE1 _ _ _ _ _ _ _ _ _ _ _ _ _ _ _) | (with_reducible show IterA1 _ _ _ _ _ _ _ _ _ _ _ _ _ _ _ _) | (with_reducible show CompOut _ _ _ _ _ _ _ _ _) | (with_reducible show IterF _ _ _ _ _ _ _ _ _ _ _) | (with_reducible show ForOut _ _ _ _ _ _ _ _ _))); first | (k_unfold; (try dsimp only)) | ((with_reducible refine item_shape ?_); k_dflt (refine item_at (by k_asm) (by k_mem) (by assumption) (by first | (with_reducible exact Int.natCast_nonneg _) | (with_reducible assumption) | decide | omega) (by first | (with_reducible assumption) | decide | omega) ?_)) | ((with_reducible refine for_shape ?_); k_dflt (refine ForF (by k_asm) (by rfl) (by rfl) (by with_unfolding_all passes_own) ?_)) | ((with_reducible show wpAny _ _ (call (Value.builtin "len") [Value.ref _]) _ _ _); k_dflt (refine kst_len (by k_asm) (by k_mem) (by first | assumption | rfl) (by omega) ?_)) | ((with_reducible refine floordiv_int ?kbe ?_ (Or.inl (PyProof.noPylong_of_log2 ?kbp))); (case kbe => first | assumption | omega); (case kbp => assumption)) | walk1 | (dsimp only; walk1) | (leave1; (try dsimp only)) | fail "no step")
      · exfalso; omega
      k_dflt (refine ListComp1A (by k_asm) (by rfl) (by with_unfolding_all rfl) (by with_unfolding_all rfl) (by decide) (by rfl) (by decide) (by rfl) (by rfl) (by rfl) ?_)
      repeat' ((fail_if_success (first | (with_reducible refine stop_ref ?_) | (with_reducible refine stop_lc ?_) | (with_reducible refine stop_alc ?_) | (with_reducible refine stop_zip ?_) | (with_reducible show IterE1 _ _ _ _ _ _ _ _ _ _ _ _ _ _ _) | (with_reducible show IterA1 _ _ _ _ _ _ _ _ _ _ _ _ _ _ _ _) | (with_reducible show CompOut _ _ _ _ _ _ _ _ _) | (with_reducible show IterF _ _ _ _ _ _ _ _ _ _ _) | (with_reducible show ForOut _ _ _ _ _ _ _ _ _))); first | (k_unfold; (try dsimp only)) | ((with_reducible refine item_shape ?_); k_dflt (refine item_at (by k_asm) (by k_mem) (by assumption) (by first | (with_reducible exact Int.natCast_nonneg _) | (with_reducible assumption) | decide | omega) (by first | (with_reducible assumption) | decide | omega) ?_)) | ((with_reducible refine for_shape ?_); k_dflt (refine ForF (by k_asm) (by rfl) (by rfl) (by with_unfolding_all passes_own) ?_)) | ((with_reducible show wpAny _ _ (call (Value.builtin "len") [Value.ref _]) _ _ _); k_dflt (refine kst_len (by k_asm) (by k_mem) (by first | assumption | rfl) (by omega) ?_)) | ((with_reducible refine floordiv_int ?kbe ?_ (Or.inl (PyProof.noPylong_of_log2 ?kbp))); (case kbe => first | assumption | omega); (case kbp => assumption)) | walk1 | (dsimp only; walk1) | (leave1; (try dsimp only)) | fail "no step")
      rename_i Y0 g0 l0 Y1 g1 l1 Y2 g2 l2 h9 F9 N9
      refine IterA1.listInts rfl F9 N9 List.mem_cons_self (by show 2 ≤ sizeLine; rw [sizeLine_eq]; decide) [A0, A1] rfl ?_ ?_
      · intro i v z own C oC m₂ h tk3 E' hi hv hz hC hns hxx FV NV
        clear F9 N9
        refine hide fun H9 hH9 => ?_
        obtain ⟨Y, ws9, k9, ps9, rfl, NY, hP9, hl9, hN9, he9⟩ := two_parts detP NV hi ((List.getElem?_toArray ..).symm.trans hv) hz (Y0 := Y0) (Y1 := Y1) (ps0 := part0 o o2 a0 a1 b0 b1) (ps1 := part1 o o2 a1 a2 b1 b2) (List.mem_append_right _ (by k_mem)) (List.mem_append_right _ (by k_mem)) (hpa0.mono fun p hp => List.mem_append_right _ (by repeat (first | assumption | refine List.mem_cons_of_mem _ ?_))) (hpa1.mono fun p hp => List.mem_append_right _ (by repeat (first | assumption | refine List.mem_cons_of_mem _ ?_))) (Near.mk near_c0 (near_dn ha0) (Near.mk (near_up ho4) (near_dn ha1) (Near.mk (near_up hp4) (near_up hb1) (Near.mk near_c0 (near_up hb0) Near.nil)))) (Near.mk (near_up ho4) (near_dn ha1) (Near.mk near_c5 (near_dn ha2) (Near.mk near_c5 (near_up hb2) (Near.mk (near_up hp4) (near_up hb1) Near.nil)))) (show 1 ≤ 4 ∧ 4 ≤ 100 by decide) (show 1 ≤ 4 ∧ 4 ≤ 100 by decide) hA0n hA1n
        refine hH9 ?_
        clear hH9 H9 NV
        repeat' ((fail_if_success (first | (with_reducible refine stop_ref ?_) | (with_reducible refine stop_lc ?_) | (with_reducible refine stop_alc ?_) | (with_reducible refine stop_zip ?_) | (with_reducible show IterE1 _ _ _ _ _ _ _ _ _ _ _ _ _ _ _) | (with_reducible show IterA1 _ _ _ _ _ _ _ _ _ _ _ _ _ _ _ _) | (with_reducible show CompOut _ _ _ _ _ _ _ _ _) | (with_reducible show IterF _ _ _ _ _ _ _ _ _ _ _) | (with_reducible show ForOut _ _ _ _ _ _ _ _ _))); first | (k_unfold; (try dsimp only)) | ((with_reducible refine item_shape ?_); k_dflt (refine item_at (by k_asm) (by k_mem) (by assumption) (by first | (with_reducible exact Int.natCast_nonneg _) | (with_reducible assumption) | decide | omega) (by first | (with_reducible assumption) | decide | omega) ?_)) | ((with_reducible refine for_shape ?_); k_dflt (refine ForF (by k_asm) (by rfl) (by rfl) (by with_unfolding_all passes_own) ?_)) | ((with_reducible show wpAny _ _ (call (Value.builtin "len") [Value.ref _]) _ _ _); k_dflt (refine kst_len (by k_asm) (by k_mem) (by first | assumption | rfl) (by omega) ?_)) | ((with_reducible refine floordiv_int ?kbe ?_ (Or.inl (PyProof.noPylong_of_log2 ?kbp))); (case kbe => first | assumption | omega); (case kbp => assumption)) | walk1 | (dsimp only; walk1) | (leave1; (try dsimp only)) | fail "no step")
        refine Tell.goIe he9 (C := t_twice _ _ _ _ _ Y ws9 _ ps9 hl9.1 hl9.2 List.mem_cons_self (hP9.mono fun p hp => List.mem_cons_of_mem _ hp) hN9) (ret := ?_)
        intro t10 h10 tk10 F10 N10
        (try dsimp only)
        repeat' ((fail_if_success (first | (with_reducible refine stop_ref ?_) | (with_reducible refine stop_lc ?_) | (with_reducible refine stop_alc ?_) | (with_reducible refine stop_zip ?_) | (with_reducible show IterE1 _ _ _ _ _ _ _ _ _ _ _ _ _ _ _) | (with_reducible show IterA1 _ _ _ _ _ _ _ _ _ _ _ _ _ _ _ _) | (with_reducible show CompOut _ _ _ _ _ _ _ _ _) | (with_reducible show IterF _ _ _ _ _ _ _ _ _ _ _) | (with_reducible show ForOut _ _ _ _ _ _ _ _ _))); first | (k_unfold; (try dsimp only)) | ((with_reducible refine item_shape ?_); k_dflt (refine item_at (by k_asm) (by k_mem) (by assumption) (by first | (with_reducible exact Int.natCast_nonneg _) | (with_reducible assumption) | decide | omega) (by first | (with_reducible assumption) | decide | omega) ?_)) | ((with_reducible refine for_shape ?_); k_dflt (refine ForF (by k_asm) (by rfl) (by rfl) (by with_unfolding_all passes_own) ?_)) | ((with_reducible show wpAny _ _ (call (Value.builtin "len") [Value.ref _]) _ _ _); k_dflt (refine kst_len (by k_asm) (by k_mem) (by first | assumption | rfl) (by omega) ?_)) | ((with_reducible refine floordiv_int ?kbe ?_ (Or.inl (PyProof.noPylong_of_log2 ?kbp))); (case kbe => first | assumption | omega); (case kbp => assumption)) | walk1 | (dsimp only; walk1) | (leave1; (try dsimp only)) | fail "no step")
        exact compOut_same (by k_asm) (by k_asm) (fun _ h => List.mem_cons_of_mem _ h) ⟨rfl, _, rfl⟩
      · intro D3 h11 tk3 ys FV NV hlt3 hys
        refine hide fun H9 hH9 => ?_
        obtain ⟨t9, u9, rfl⟩ := Mine.ints_two hys
        refine hH9 ?_
        clear hH9 H9 hys F9 N9
        (try dsimp only)
        repeat' ((fail_if_success (first | (with_reducible refine stop_ref ?_) | (with_reducible refine stop_lc ?_) | (with_reducible refine stop_alc ?_) | (with_reducible refine stop_zip ?_) | (with_reducible show IterE1 _ _ _ _ _ _ _ _ _ _ _ _ _ _ _) | (with_reducible show IterA1 _ _ _ _ _ _ _ _ _ _ _ _ _ _ _ _) | (with_reducible show CompOut _ _ _ _ _ _ _ _ _) | (with_reducible show IterF _ _ _ _ _ _ _ _ _ _ _) | (with_reducible show ForOut _ _ _ _ _ _ _ _ _))); first | (k_unfold; (try dsimp only)) | ((with_reducible refine item_shape ?_); k_dflt (refine item_at (by k_asm) (by k_mem) (by assumption) (by first | (with_reducible exact Int.natCast_nonneg _) | (with_reducible assumption) | decide | omega) (by first | (with_reducible assumption) | decide | omega) ?_)) | ((with_reducible refine for_shape ?_); k_dflt (refine ForF (by k_asm) (by rfl) (by rfl) (by with_unfolding_all passes_own) ?_)) | ((with_reducible show wpAny _ _ (call (Value.builtin "len") [Value.ref _]) _ _ _); k_dflt (refine kst_len (by k_asm) (by k_mem) (by first | assumption | rfl) (by omega) ?_)) | ((with_reducible refine floordiv_int ?kbe ?_ (Or.inl (PyProof.noPylong_of_log2 ?kbp))); (case kbe => first | assumption | omega); (case kbp => assumption)) | walk1 | (dsimp only; walk1) | (leave1; (try dsimp only)) | fail "no step")
        · exact absurd (show [A0, A1].getD (Int.toNat 0) 0 + [A0, A1].getD (Int.toNat 1) 0 = T from hAA) (by assumption)
        k_dflt (refine ListComp2A (by k_asm) (by rfl) (by with_unfolding_all rfl) (by with_unfolding_all rfl) (by decide) (by rfl) (by decide) (by rfl) (by rfl) (by decide) (by rfl) (by rfl) ?_)
        repeat' ((fail_if_success (first | (with_reducible refine stop_ref ?_) | (with_reducible refine stop_lc ?_) | (with_reducible refine stop_alc ?_) | (with_reducible refine stop_zip ?_) | (with_reducible show IterE1 _ _ _ _ _ _ _ _ _ _ _ _ _ _ _) | (with_reducible show IterA1 _ _ _ _ _ _ _ _ _ _ _ _ _ _ _ _) | (with_reducible show CompOut _ _ _ _ _ _ _ _ _) | (with_reducible show IterF _ _ _ _ _ _ _ _ _ _ _) | (with_reducible show ForOut _ _ _ _ _ _ _ _ _))); first | (k_unfold; (try dsimp only)) | ((with_reducible refine item_shape ?_); k_dflt (refine item_at (by k_asm) (by k_mem) (by assumption) (by first | (with_reducible exact Int.natCast_nonneg _) | (with_reducible assumption) | decide | omega) (by first | (with_reducible assumption) | decide | omega) ?_)) | ((with_reducible refine for_shape ?_); k_dflt (refine ForF (by k_asm) (by rfl) (by rfl) (by with_unfolding_all passes_own) ?_)) | ((with_reducible show wpAny _ _ (call (Value.builtin "len") [Value.ref _]) _ _ _); k_dflt (refine kst_len (by k_asm) (by k_mem) (by first | assumption | rfl) (by omega) ?_)) | ((with_reducible refine floordiv_int ?kbe ?_ (Or.inl (PyProof.noPylong_of_log2 ?kbp))); (case kbe => first | assumption | omega); (case kbp => assumption)) | walk1 | (dsimp only; walk1) | (leave1; (try dsimp only)) | fail "no step")
        refine IterA2.zipInts rfl (by k_asm) (by k_asm) List.mem_cons_self (List.mem_cons_of_mem _ List.mem_cons_self) (by show 2 ≤ sizeLine; rw [sizeLine_eq]; decide) [(A0 - B0 + 2).fdiv 2, (A1 - B1 + 2).fdiv 2] rfl ?_ ?_
        · intro i v v₂ z own C oC m₂ h tk4 E' hi hv hv2 hz hC hns hxx hxx2 FV NV
          have hz9 : ∃ A B, v = .int A (if i = 0 then t9 else u9) ∧ [B0, B1][i]? = some B ∧ z = (A - B + 2).fdiv 2 := by
            have hv' := (List.getElem?_toArray ..).symm.trans hv
            have hi' : i = 0 ∨ i = 1 := by have hi'' : i < 2 := hi; omega
            rcases hi' with rfl | rfl
            · cases hv'; cases hz; exact ⟨A0, B0, rfl, rfl, rfl⟩
            · cases hv'; cases hz; exact ⟨A1, B1, rfl, rfl, rfl⟩
          refine hide fun H8 hH8 => ?_
          obtain ⟨A9, B9, rfl, hzB, rfl⟩ := hz9
          refine hH8 ?_
          clear hH8 H8 hz hv
          refine hide fun H9 hH9 => ?_
          obtain ⟨Y, ws9, k9, ps9, rfl, NY, hP9, hl9, hN9, he9⟩ := two_parts gcdP NV hi ((List.getElem?_toArray ..).symm.trans hv2) hzB (Y0 := Y0) (Y1 := Y1) (ps0 := part0 o o2 a0 a1 b0 b1) (ps1 := part1 o o2 a1 a2 b1 b2) (List.mem_append_right _ (by k_mem)) (List.mem_append_right _ (by k_mem)) (hpa0.mono fun p hp => List.mem_append_right _ (by repeat (first | assumption | refine List.mem_cons_of_mem _ ?_))) (hpa1.mono fun p hp => List.mem_append_right _ (by repeat (first | assumption | refine List.mem_cons_of_mem _ ?_))) (Near.mk near_c0 (near_dn ha0) (Near.mk (near_up ho4) (near_dn ha1) (Near.mk (near_up hp4) (near_up hb1) (Near.mk near_c0 (near_up hb0) Near.nil)))) (Near.mk (near_up ho4) (near_dn ha1) (Near.mk near_c5 (near_dn ha2) (Near.mk near_c5 (near_up hb2) (Near.mk (near_up hp4) (near_up hb1) Near.nil)))) (show 1 ≤ 4 ∧ 4 ≤ 100 by decide) (show 1 ≤ 4 ∧ 4 ≤ 100 by decide) hB0n hB1n
          refine hH9 ?_
          clear hH9 H9 NV
          repeat' ((fail_if_success (first | (with_reducible refine stop_ref ?_) | (with_reducible refine stop_lc ?_) | (with_reducible refine stop_alc ?_) | (with_reducible refine stop_zip ?_) | (with_reducible show IterE1 _ _ _ _ _ _ _ _ _ _ _ _ _ _ _) | (with_reducible show IterA1 _ _ _ _ _ _ _ _ _ _ _ _ _ _ _ _) | (with_reducible show CompOut _ _ _ _ _ _ _ _ _) | (with_reducible show IterF _ _ _ _ _ _ _ _ _ _ _) | (with_reducible show ForOut _ _ _ _ _ _ _ _ _))); first | (k_unfold; (try dsimp only)) | ((with_reducible refine item_shape ?_); k_dflt (refine item_at (by k_asm) (by k_mem) (by assumption) (by first | (with_reducible exact Int.natCast_nonneg _) | (with_reducible assumption) | decide | omega) (by first | (with_reducible assumption) | decide | omega) ?_)) | ((with_reducible refine for_shape ?_); k_dflt (refine ForF (by k_asm) (by rfl) (by rfl) (by with_unfolding_all passes_own) ?_)) | ((with_reducible show wpAny _ _ (call (Value.builtin "len") [Value.ref _]) _ _ _); k_dflt (refine kst_len (by k_asm) (by k_mem) (by first | assumption | rfl) (by omega) ?_)) | ((with_reducible refine floordiv_int ?kbe ?_ (Or.inl (PyProof.noPylong_of_log2 ?kbp))); (case kbe => first | assumption | omega); (case kbp => assumption)) | walk1 | (dsimp only; walk1) | (leave1; (try dsimp only)) | fail "no step")
          refine Tell.goIe he9 (C := t_border _ _ _ _ _ Y ws9 _ ps9 hl9.1 hl9.2 List.mem_cons_self (hP9.mono fun p hp => List.mem_cons_of_mem _ hp) hN9) (ret := ?_)
          intro t10 h10 tk10 F10 N10
          (try dsimp only)
          repeat' ((fail_if_success (first | (with_reducible refine stop_ref ?_) | (with_reducible refine stop_lc ?_) | (with_reducible refine stop_alc ?_) | (with_reducible refine stop_zip ?_) | (with_reducible show IterE1 _ _ _ _ _ _ _ _ _ _ _ _ _ _ _) | (with_reducible show IterA1 _ _ _ _ _ _ _ _ _ _ _ _ _ _ _ _) | (with_reducible show CompOut _ _ _ _ _ _ _ _ _) | (with_reducible show IterF _ _ _ _ _ _ _ _ _ _ _) | (with_reducible show ForOut _ _ _ _ _ _ _ _ _))); first | (k_unfold; (try dsimp only)) | ((with_reducible refine item_shape ?_); k_dflt (refine item_at (by k_asm) (by k_mem) (by assumption) (by first | (with_reducible exact Int.natCast_nonneg _) | (with_reducible assumption) | decide | omega) (by first | (with_reducible assumption) | decide | omega) ?_)) | ((with_reducible refine for_shape ?_); k_dflt (refine ForF (by k_asm) (by rfl) (by rfl) (by with_unfolding_all passes_own) ?_)) | ((with_reducible show wpAny _ _ (call (Value.builtin "len") [Value.ref _]) _ _ _); k_dflt (refine kst_len (by k_asm) (by k_mem) (by first | assumption | rfl) (by omega) ?_)) | ((with_reducible refine floordiv_int ?kbe ?_ (Or.inl (PyProof.noPylong_of_log2 ?kbp))); (case kbe => first | assumption | omega); (case kbp => assumption)) | walk1 | (dsimp only; walk1) | (leave1; (try dsimp only)) | fail "no step")
          exact compOut_same (by k_asm) (by k_asm) (fun _ h => List.mem_cons_of_mem _ h) ⟨rfl, _, rfl⟩
        · intro D4 h12 tk4 ys FV NV hlt4 hys
          refine hide fun H9 hH9 => ?_
          obtain ⟨t10, u10, rfl⟩ := Mine.ints_two hys
          obtain ⟨t12, u12, hq1⟩ := Mine.pts_mid hPh
          obtain ⟨t13, u13, hp1⟩ := Mine.pts_mid hPl
          refine hH9 ?_
          clear hH9 H9 hys
          (try dsimp only)
          repeat' ((fail_if_success (first | (with_reducible refine stop_ref ?_) | (with_reducible refine stop_lc ?_) | (with_reducible refine stop_alc ?_) | (with_reducible refine stop_zip ?_) | (with_reducible show IterE1 _ _ _ _ _ _ _ _ _ _ _ _ _ _ _) | (with_reducible show IterA1 _ _ _ _ _ _ _ _ _ _ _ _ _ _ _ _) | (with_reducible show CompOut _ _ _ _ _ _ _ _ _) | (with_reducible show IterF _ _ _ _ _ _ _ _ _ _ _) | (with_reducible show ForOut _ _ _ _ _ _ _ _ _))); first | (k_unfold; (try dsimp only)) | ((with_reducible refine item_shape ?_); k_dflt (refine item_at (by k_asm) (by k_mem) (by assumption) (by first | (with_reducible exact Int.natCast_nonneg _) | (with_reducible assumption) | decide | omega) (by first | (with_reducible assumption) | decide | omega) ?_)) | ((with_reducible refine for_shape ?_); k_dflt (refine ForF (by k_asm) (by rfl) (by rfl) (by with_unfolding_all passes_own) ?_)) | ((with_reducible show wpAny _ _ (call (Value.builtin "len") [Value.ref _]) _ _ _); k_dflt (refine kst_len (by k_asm) (by k_mem) (by first | assumption | rfl) (by omega) ?_)) | ((with_reducible refine floordiv_int ?kbe ?_ (Or.inl (PyProof.noPylong_of_log2 ?kbp))); (case kbe => first | assumption | omega); (case kbp => assumption)) | walk1 | (dsimp only; walk1) | (leave1; (try dsimp only)) | fail "no step")
          refine Tell.goI (C := t_gcd _ _ _ _ _ _ _ _ _) (ret := ?_)
          intro t9 h9 tk9 F9 N9
          (try dsimp only)
          (try k_fold)
          repeat' ((fail_if_success (first | (with_reducible refine stop_ref ?_) | (with_reducible refine stop_lc ?_) | (with_reducible refine stop_alc ?_) | (with_reducible refine stop_zip ?_) | (with_reducible show IterE1 _ _ _ _ _ _ _ _ _ _ _ _ _ _ _) | (with_reducible show IterA1 _ _ _ _ _ _ _ _ _ _ _ _ _ _ _ _) | (with_reducible show CompOut _ _ _ _ _ _ _ _ _) | (with_reducible show IterF _ _ _ _ _ _ _ _ _ _ _) | (with_reducible show ForOut _ _ _ _ _ _ _ _ _))); first | (k_unfold; (try dsimp only)) | ((with_reducible refine item_shape ?_); k_dflt (refine item_at (by k_asm) (by k_mem) (by assumption) (by first | (with_reducible exact Int.natCast_nonneg _) | (with_reducible assumption) | decide | omega) (by first | (with_reducible assumption) | decide | omega) ?_)) | ((with_reducible refine for_shape ?_); k_dflt (refine ForF (by k_asm) (by rfl) (by rfl) (by with_unfolding_all passes_own) ?_)) | ((with_reducible show wpAny _ _ (call (Value.builtin "len") [Value.ref _]) _ _ _); k_dflt (refine kst_len (by k_asm) (by k_mem) (by first | assumption | rfl) (by omega) ?_)) | ((with_reducible refine floordiv_int ?kbe ?_ (Or.inl (PyProof.noPylong_of_log2 ?kbp))); (case kbe => first | assumption | omega); (case kbp => assumption)) | walk1 | (dsimp only; walk1) | (leave1; (try dsimp only)) | fail "no step")
          refine hQ0 _ _ ?_
          (try dsimp only)
          have hfin : ([(A0 - B0 + 2).fdiv 2, (A1 - B1 + 2).fdiv 2].getD (Int.toNat 0) 0 + [(A0 - B0 + 2).fdiv 2, (A1 - B1 + 2).fdiv 2].getD (Int.toNat 1) 0 + ((Int.gcd (1 + (o : Int) - (1 + (o2 : Int))) (1 + (b1 : Int) - (0 - (a1 : Int))) : Nat) : Int) - 1 == W) = true := beq_iff_eq.mpr hI
          rw [hfin]
          clear hfin
          first
            | exact PySem.W.goodW_bool (by k_asm) (by assumption) (fun _ => rfl) (by rfl)
            | exact PySem.W.goodW_bool (by k_asm) (by assumption) (fun _ => by with_unfolding_all rfl) (by with_unfolding_all rfl)
            | walk1
end
end Mine
theorem PySem.Challenge.cw_xm0049_01_holds : PySem.Challenge.rw_xm0049_01.Holds := by
  exact Mine.fin1
