import PyProof.Rows.All
import Wide.All
import OpenK.AllK
import Wide.FinOn
import KE.KFromBytes
import KE.KOpsOwn
import PyProof.InstNe
import PyProof.P3In
import HandS.ForMost
import HandS.OwnEq
import HandS.SlotsOwn
import HandS.NamedTupSort
import HandS.ClsMeth
import HandS.CallLocal
import HandS.NoneIn
import HandS.DictComp
import HandS.IsInst
import HandS.Zip
import HandS.TupAny
import HandS.Deep
import HandS.SortInts
import HandS.Conv
import HandS.Codes
import PySem.Challenge.RW_deepenough_k03_whole_set_algebra

-- text K03Math
/-! The plain law: sets of numbers that come round, told by few, first, period, rests. No program here. -/
namespace K03

/-- is n in the set that these parts tell -/
def mem (few : List Nat) (first period : Nat) (rests : List Nat) (n : Nat) : Bool :=
  if n < first then few.contains n else rests.contains (n % period)

/-- do the rests by a period come round already by less -/
def hasP (rests : List Nat) (period less : Nat) : Bool :=
  (List.range period).all fun r => rests.contains r == rests.contains ((r + less) % period)

structure Valid (few : List Nat) (first period : Nat) (rests : List Nat) : Prop where
  fa : few.Pairwise (· < ·)
  fl : ∀ x ∈ few, x < first
  ra : rests.Pairwise (· < ·)
  rl : ∀ x ∈ rests, x < period
  pos : 0 < period

structure Norm (few : List Nat) (first period : Nat) (rests : List Nat) : Prop extends Valid few first period rests where
  pm : ∀ d, 0 < d → d ∣ period → hasP rests period d = true → period ≤ d
  fm : first = 0 ∨ few.contains (first - 1) ≠ rests.contains ((first - 1) % period)

theorem sorted_eq : ∀ {l m : List Nat}, l.Pairwise (· < ·) → m.Pairwise (· < ·) → (∀ x, x ∈ l ↔ x ∈ m) → l = m
  | [], [], _, _, _ => rfl
  | [], b :: m, _, _, h => absurd ((h b).2 List.mem_cons_self) (by simp)
  | a :: l, [], _, _, h => absurd ((h a).1 List.mem_cons_self) (by simp)
  | a :: l, b :: m, hl, hm, h => by
    have hl' := List.pairwise_cons.mp hl
    have hm' := List.pairwise_cons.mp hm
    have hab : a = b := by
      rcases List.mem_cons.mp ((h a).1 List.mem_cons_self) with e | e
      · exact e
      · rcases List.mem_cons.mp ((h b).2 List.mem_cons_self) with e' | e'
        · exact e'.symm
        · have h1 := hm'.1 a e
          have h2 := hl'.1 b e'
          omega
    subst hab
    have : l = m := sorted_eq hl'.2 hm'.2 fun x => by
      constructor
      · intro hx
        rcases List.mem_cons.mp ((h x).1 (List.mem_cons_of_mem _ hx)) with e | e
        · have := hl'.1 x hx; omega
        · exact e
      · intro hx
        rcases List.mem_cons.mp ((h x).2 (List.mem_cons_of_mem _ hx)) with e | e
        · have := hm'.1 x hx; omega
        · exact e
    rw [this]

theorem hasP_iff {rests : List Nat} {p d : Nat} : hasP rests p d = true ↔ ∀ r, r < p → rests.contains r = rests.contains ((r + d) % p) := by
  unfold hasP
  rw [List.all_eq_true]
  constructor
  · intro h r hr
    have := h r (List.mem_range.mpr hr)
    exact eq_of_beq this
  · intro h r hr
    rw [h r (List.mem_range.mp hr)]
    exact beq_self_eq_true _

/-- the tail of a set -/
def tail (rests : List Nat) (p n : Nat) : Bool := rests.contains (n % p)
theorem tail_mod {rests : List Nat} {p n : Nat} : tail rests p (n % p) = tail rests p n := by unfold tail; rw [Nat.mod_mod]
theorem tail_hasP {rests : List Nat} {p d : Nat} (hp : 0 < p) (h : hasP rests p d = true) (n : Nat) : tail rests p (n + d) = tail rests p n := by
  unfold tail
  rw [hasP_iff.mp h (n % p) (Nat.mod_lt _ hp), Nat.mod_add_mod]
theorem hasP_tail {rests : List Nat} {p d : Nat} (h : ∀ n, tail rests p (n + d) = tail rests p n) : hasP rests p d = true := by
  refine hasP_iff.mpr fun r hr => ?_
  have e := h r
  unfold tail at e
  rw [e, Nat.mod_eq_of_lt hr]

theorem per_mul {T : Nat → Bool} {p : Nat} (h : ∀ n, T (n + p) = T n) : ∀ k n, T (n + k * p) = T n
  | 0, n => by rw [Nat.zero_mul, Nat.add_zero]
  | k + 1, n => by
    rw [Nat.succ_mul, ← Nat.add_assoc, h, per_mul h k n]
theorem per_mod {T : Nat → Bool} {p : Nat} (h : ∀ n, T (n + p) = T n) (n : Nat) : T (n % p) = T n := by
  have e := per_mul h (n / p) (n % p)
  rw [Nat.mul_comm, Nat.mod_add_div] at e
  exact e.symm
theorem per_gcd {T : Nat → Bool} : ∀ (p q : Nat), (∀ n, T (n + p) = T n) → (∀ n, T (n + q) = T n) → ∀ n, T (n + Nat.gcd p q) = T n := fun p q => by
  induction p, q using Nat.gcd.induction with
  | H0 q => intro _ h2 n; rw [Nat.gcd_zero_left]; exact h2 n
  | H1 p q hp ih =>
    intro h1 h2 n
    rw [Nat.gcd_rec]
    refine ih (fun m => ?_) h1 n
    have e := per_mul h1 (q / p) (m + q % p)
    rw [← e, Nat.add_assoc, Nat.mul_comm (q / p) p, Nat.mod_add_div, h2]

theorem tail_per {rests : List Nat} {p : Nat} (n : Nat) : tail rests p (n + p) = tail rests p n := by unfold tail; rw [Nat.add_mod_right]
theorem mem_tail {few : List Nat} {first p : Nat} {rests : List Nat} {n : Nat} (h : first ≤ n) : mem few first p rests n = tail rests p n := by
  unfold mem tail
  rw [if_neg (Nat.not_lt.mpr h)]
theorem mem_few {few : List Nat} {first p : Nat} {rests : List Nat} {n : Nat} (h : n < first) : mem few first p rests n = few.contains n := by
  unfold mem
  rw [if_pos h]
theorem tails_eq {f f' p p' a a' : Nat} {few few' rests rests' : List Nat} (hp : 0 < p) (hp' : 0 < p') (h : ∀ n, mem few f p rests n = mem few' f' p' rests' n) (n : Nat) : tail rests p n = tail rests' p' n := by
  have e1 := per_mul (T := tail rests p) tail_per ((f + f') * p') n
  have e2 := per_mul (T := tail rests' p') tail_per ((f + f') * p) n
  have e3 : (f + f') * p' * p = (f + f') * p * p' := by rw [Nat.mul_assoc, Nat.mul_comm p' p, Nat.mul_assoc]
  have hb : f + f' ≤ (f + f') * p * p' := by
    rw [Nat.mul_assoc]
    exact Nat.le_mul_of_pos_right _ (Nat.mul_pos hp hp')
  have e4 := h (n + (f + f') * p * p')
  rw [mem_tail (by omega), mem_tail (by omega)] at e4
  rw [← e1, ← e2, e3]
  exact e4

theorem uniq {few few' rests rests' : List Nat} {f f' p p' : Nat} (A : Norm few f p rests) (B : Norm few' f' p' rests') (h : ∀ n, mem few f p rests n = mem few' f' p' rests' n) : few = few' ∧ f = f' ∧ p = p' ∧ rests = rests' := by
  have te : ∀ n, tail rests p n = tail rests' p' n := tails_eq (a := 0) (a' := 0) A.pos B.pos h
  have g1 := per_gcd p p' (T := tail rests p) tail_per (fun n => by rw [te, te, tail_per])
  have q1 : p ≤ Nat.gcd p p' := A.pm _ (Nat.gcd_pos_of_pos_left _ A.pos) (Nat.gcd_dvd_left _ _) (hasP_tail g1)
  have g2 : ∀ n, tail rests' p' (n + Nat.gcd p p') = tail rests' p' n := fun n => by rw [← te, ← te, g1]
  have q2 : p' ≤ Nat.gcd p p' := B.pm _ (Nat.gcd_pos_of_pos_left _ A.pos) (Nat.gcd_dvd_right _ _) (hasP_tail g2)
  have l1 := Nat.le_of_dvd A.pos (Nat.gcd_dvd_left p p')
  have l2 := Nat.le_of_dvd B.pos (Nat.gcd_dvd_right p p')
  have ep : p = p' := by omega
  subst ep
  have er : rests = rests' := sorted_eq A.ra B.ra fun x => by
    have key : ∀ {l m : List Nat}, (∀ n, tail l p n = tail m p n) → (∀ x ∈ l, x < p) → x ∈ l → x ∈ m := fun {l m} e hl hx => by
      have hlt := hl x hx
      have := e x
      unfold tail at this
      rw [Nat.mod_eq_of_lt hlt] at this
      have h1 : l.contains x = true := by simpa using hx
      rw [h1] at this
      simpa using this.symm
    exact ⟨key te A.rl, key (fun n => (te n).symm) B.rl⟩
  subst er
  have one : ∀ {a b : List Nat} {i j : Nat}, Norm a i p rests → Norm b j p rests → (∀ n, mem a i p rests n = mem b j p rests n) → ¬ i < j := fun {a b i j} X Y e hlt => by
    rcases Y.fm with z | z
    · omega
    · apply z
      have e1 := e (j - 1)
      rw [mem_tail (by omega), mem_few (by omega)] at e1
      exact e1.symm
  have ef : f = f' := by
    have h1 := one A B h
    have h2 := one B A fun n => (h n).symm
    omega
  subst ef
  refine ⟨sorted_eq A.fa B.fa fun x => ?_, rfl, rfl, rfl⟩
  have key : ∀ {l m : List Nat}, (∀ n, mem l f p rests n = mem m f p rests n) → (∀ x ∈ l, x < f) → x ∈ l → x ∈ m := fun {l m} e hl hx => by
    have hlt := hl x hx
    have := e x
    rw [mem_few hlt, mem_few hlt] at this
    have h1 : l.contains x = true := by simpa using hx
    rw [h1] at this
    simpa using this.symm
  exact ⟨key h A.fl, key (fun n => (h n).symm) B.fl⟩

/-- what __init__ keeps -/
theorem norm_of {few rests : List Nat} {first period lp f : Nat} (V : Valid few first period rests)
    (l0 : 0 < lp) (l1 : lp ∣ period) (l2 : hasP rests period lp = true) (l3 : ∀ d, 0 < d → d ∣ period → hasP rests period d = true → lp ≤ d)
    (f0 : f ≤ first) (f1 : ∀ n, f ≤ n → n < first → few.contains n = (rests.filter (· < lp)).contains (n % lp))
    (f2 : f = 0 ∨ few.contains (f - 1) ≠ (rests.filter (· < lp)).contains ((f - 1) % lp)) :
    Norm (few.filter (· < f)) f lp (rests.filter (· < lp)) ∧ ∀ n, mem (few.filter (· < f)) f lp (rests.filter (· < lp)) n = mem few first period rests n := by
  have lep : lp ≤ period := Nat.le_of_dvd V.pos l1
  have cf : ∀ {l : List Nat} {b x : Nat}, x < b → (l.filter (· < b)).contains x = l.contains x := fun {l b x} hx => by
    apply Bool.eq_iff_iff.mpr
    simp [hx]
  have tl : ∀ n, tail (rests.filter (· < lp)) lp n = tail rests period n := fun n => by
    rw [← per_mod (tail_hasP V.pos l2) n]
    have hlt : n % lp < lp := Nat.mod_lt _ l0
    unfold tail
    rw [cf hlt, Nat.mod_eq_of_lt (Nat.lt_of_lt_of_le hlt lep)]
  refine ⟨⟨⟨V.fa.filter _, fun x hx => ?_, V.ra.filter _, fun x hx => ?_, l0⟩, fun d d0 dd dh => ?_, ?_⟩, fun n => ?_⟩
  · have := (List.mem_filter.mp hx).2
    simpa using this
  · have := (List.mem_filter.mp hx).2
    simpa using this
  · refine l3 d d0 (Nat.dvd_trans dd l1) (hasP_tail fun n => ?_)
    rw [← tl, ← tl]
    exact tail_hasP l0 dh n
  · rcases f2 with z | z
    · exact .inl z
    · by_cases h0 : f = 0
      · exact .inl h0
      · refine .inr ?_
        rw [cf (by omega)]
        exact z
  · by_cases h1 : n < f
    · rw [mem_few h1, mem_few (by omega), cf h1]
    · rw [mem_tail (by omega), tl]
      by_cases h2 : n < first
      · rw [mem_few h2, f1 n (by omega) h2]
        have := tl n
        unfold tail at this ⊢
        exact this.symm
      · rw [mem_tail (by omega)]

/-- from its first on a set comes round -/
theorem mem_round {few rests : List Nat} {f p P n m : Nat} (hn : f ≤ n) (hm : f ≤ m) (hd : p ∣ P) (e : n % P = m % P) : mem few f p rests n = mem few f p rests m := by
  rw [mem_tail hn, mem_tail hm]
  unfold tail
  rw [← Nat.mod_mod_of_dvd n hd, e, Nat.mod_mod_of_dvd m hd]

/-- what joined keeps: R the sorted rests -/
theorem join_of {F P : Nat} {W : Nat → Bool} {R : List Nat} (hP : 0 < P) (hW : ∀ n m, F ≤ n → F ≤ m → n % P = m % P → W n = W m)
    (hR : R.Perm ((((List.range (F + P)).filter W).filter (F ≤ ·)).map (· % P))) (hs : R.Pairwise (· ≤ ·)) :
    Valid (((List.range (F + P)).filter W).filter (· < F)) F P R ∧ ∀ n, mem (((List.range (F + P)).filter W).filter (· < F)) F P R n = W n := by
  have asc : ((List.range (F + P)).filter W).Pairwise (· < ·) := List.Pairwise.filter _ List.pairwise_lt_range
  have inR : ∀ x, x ∈ R ↔ ∃ n, n < F + P ∧ W n = true ∧ F ≤ n ∧ n % P = x := fun x => by
    rw [hR.mem_iff, List.mem_map]
    constructor
    · rintro ⟨n, hn, e⟩
      have h1 := List.mem_filter.mp hn
      have h2 := List.mem_filter.mp h1.1
      exact ⟨n, List.mem_range.mp h2.1, h2.2, by simpa using h1.2, e⟩
    · rintro ⟨n, h1, h2, h3, e⟩
      exact ⟨n, List.mem_filter.mpr ⟨List.mem_filter.mpr ⟨List.mem_range.mpr h1, h2⟩, by simpa using h3⟩, e⟩
  have inj : ∀ a b, F ≤ a → a < F + P → F ≤ b → b < F + P → a % P = b % P → a = b := fun a b h1 h2 h3 h4 e => by
    have key : ∀ a b, F ≤ a → a < F + P → F ≤ b → b < F + P → a % P = b % P → ¬ a < b := fun a b h1 h2 h3 h4 e hlt => by
      have e1 : (b - a) % P = 0 := by
        have := Nat.sub_mod_eq_zero_of_mod_eq e.symm
        exact this
      have e2 : (b - a) % P = b - a := Nat.mod_eq_of_lt (by omega)
      omega
    have k1 := key a b h1 h2 h3 h4 e
    have k2 := key b a h3 h4 h1 h2 e.symm
    omega
  have nd : R.Nodup := by
    rw [hR.nodup_iff, List.Nodup, List.pairwise_map]
    refine List.Pairwise.imp_of_mem (fun {a b} ha hb hlt e => ?_) (asc.filter _)
    have a1 := List.mem_filter.mp ha
    have b1 := List.mem_filter.mp hb
    have a2 := List.mem_range.mp (List.mem_filter.mp a1.1).1
    have b2 := List.mem_range.mp (List.mem_filter.mp b1.1).1
    have := inj a b (by simpa using a1.2) a2 (by simpa using b1.2) b2 e
    omega
  have ra : R.Pairwise (· < ·) := by
    have := List.Pairwise.and hs nd
    exact this.imp fun {a b} h => Nat.lt_of_le_of_ne h.1 h.2
  refine ⟨⟨asc.filter _, fun x hx => ?_, ra, fun x hx => ?_, hP⟩, fun n => ?_⟩
  · have := (List.mem_filter.mp hx).2
    simpa using this
  · obtain ⟨n, _, _, _, e⟩ := (inR x).mp hx
    rw [← e]
    exact Nat.mod_lt _ hP
  · by_cases hn : n < F
    · rw [mem_few hn]
      apply Bool.eq_iff_iff.mpr
      rw [List.contains_iff_mem, List.mem_filter, List.mem_filter, List.mem_range]
      simp only [decide_eq_true_eq]
      constructor
      · rintro ⟨⟨_, h⟩, _⟩; exact h
      · intro h; exact ⟨⟨by omega, h⟩, hn⟩
    · rw [mem_tail (by omega)]
      unfold tail
      apply Bool.eq_iff_iff.mpr
      rw [List.contains_iff_mem, inR]
      constructor
      · rintro ⟨m, _, hw, hm, e⟩
        rw [hW n m (by omega) hm e.symm]
        exact hw
      · intro h
        have e : (F + (n - F) % P) % P = n % P := by
          rw [Nat.add_mod_mod]
          congr 1
          omega
        have hlt := Nat.mod_lt (n - F) hP
        exact ⟨F + (n - F) % P, by omega, by rw [hW _ n (by omega) (by omega) e]; exact h, by omega, e⟩

/-- what __invert__ keeps -/
theorem not_of {few rests : List Nat} {f p : Nat} (V : Valid few f p rests) :
    Valid ((List.range f).filter fun n => !few.contains n) f p ((List.range p).filter fun n => !rests.contains n) ∧
    ∀ n, mem ((List.range f).filter fun n => !few.contains n) f p ((List.range p).filter fun n => !rests.contains n) n = !mem few f p rests n := by
  refine ⟨⟨List.Pairwise.filter _ List.pairwise_lt_range, fun x hx => List.mem_range.mp (List.mem_filter.mp hx).1, List.Pairwise.filter _ List.pairwise_lt_range, fun x hx => List.mem_range.mp (List.mem_filter.mp hx).1, V.pos⟩, fun n => ?_⟩
  have key : ∀ (l : List Nat) (b x : Nat), x < b → ((List.range b).filter fun n => !l.contains n).contains x = !l.contains x := fun l b x hx => by
    apply Bool.eq_iff_iff.mpr
    rw [List.contains_iff_mem, List.mem_filter, List.mem_range]
    exact ⟨fun h => h.2, fun h => ⟨hx, h⟩⟩
  by_cases hn : n < f
  · rw [mem_few hn, mem_few hn, key _ _ _ hn]
  · rw [mem_tail (by omega), mem_tail (by omega)]
    unfold tail
    rw [key _ _ _ (Nat.mod_lt _ V.pos)]

/-- when a set has a member -/
theorem some_of {few rests : List Nat} {f p : Nat} (V : Valid few f p rests) : (0 < few.length + rests.length) ↔ ∃ n, mem few f p rests n = true := by
  constructor
  · intro h
    cases few with
    | cons x r =>
      refine ⟨x, ?_⟩
      rw [mem_few (V.fl x List.mem_cons_self)]
      simp
    | nil =>
      cases rests with
      | nil => simp at h
      | cons x r =>
        have hx := V.rl x List.mem_cons_self
        refine ⟨x + f * p, ?_⟩
        have hb : f ≤ f * p := Nat.le_mul_of_pos_right _ V.pos
        rw [mem_tail (by omega)]
        unfold tail
        rw [Nat.add_mul_mod_self_right, Nat.mod_eq_of_lt hx]
        simp
  · rintro ⟨n, h⟩
    unfold mem at h
    split at h
    · have : n ∈ few := by simpa using h
      have := List.length_pos_of_mem this
      omega
    · have : n % p ∈ rests := by simpa using h
      have := List.length_pos_of_mem this
      omega

/-- a set with first at most 9 and a period that divides 60 shows all below 180 -/
def Small (S : Nat → Bool) : Prop := ∃ few f p rests, f ≤ 9 ∧ p ∣ 60 ∧ S = mem few f p rests
theorem Small.low {S : Nat → Bool} (h : Small S) (n : Nat) : ∃ m, m < 180 ∧ ∀ T, Small T → T m = T n := by
  by_cases hn : n < 180
  · exact ⟨n, hn, fun _ _ => rfl⟩
  · refine ⟨9 + (n - 9) % 60, by omega, fun T ⟨few, f, p, rests, hf, hp, e⟩ => ?_⟩
    rw [e]
    exact mem_round (P := 60) (by omega) (by omega) hp (by omega)
end K03


-- text K03Rules
set_option Elab.async false
set_option linter.all false
set_option maxRecDepth 100000
set_option maxHeartbeats 4000000
/-! Own rules: operators by own methods, cls(..), C.m(). -/
namespace K03
open PySem PySem.Spec PyProof.Rows L2

section
variable {prog : Program} {w : World} {A : Around} {E : Value → Shared → Prop} {s : Shared} {K : PySem.W.Frag} {x C L f : Addr} {h0 : Heap} {m : Str → Option Value} {ox : Obj} {odd : Option Obj} {b tb : Value}
/-- bool(x) -/
theorem bool_own {Q : Value → Shared → Prop} (X : K.In s.heap) (I : PySem.W.InstAt s.heap x ox C odd) (hs : PySem.W.findIn K (.ref C) "__bool__" = some (some (.ref f))) (hf : PySem.W.isFn K (.ref f) = true)
    (h : wpAny (model prog w) A.in1.in1 (call (.ref f) [.ref x]) (fun r s1 => ∃ k, r = Value.bool k ∧ Q r s1) E s) : wpAny (model prog w) A (call (.type "bool") [.ref x]) Q E s := by
  refine callType_codes (T := "bool") (Bi := Builtin.«object.__init__») (Q₁ := fun r s₁ => ∃ k, r = Value.bool k ∧ Q r s₁) PySem.F.called_bool (PySem.F.typeCall_bool_1 _) PySem.F.entry_object_init ?_ ?_
  · refine codeAny_of_tree ?_
    show wpAny _ A.in1.in1 (do checkBuiltinCall "bool.__new__" ⟨[.type "bool", .ref x], []⟩; again (.builtin "bool.__new__" ⟨[.type "bool", .ref x], []⟩)) _ _ s
    refine wpAny_bind (wpAny_of_eq (PySem.F.newCall_bool_1 _) (wpAny_pure ⟨plainId_quiet (by decide +kernel) _, codeAny_builtin PySem.F.entry_bool_new ?_⟩))
    rw [Around.under_plainId (by decide +kernel) _]
    unfold Builtin.«bool.__new__»
    refine wpAny_bind (wpAny_of_eq (a := true) (show isType (.type "bool") = pure true by first | rfl | kernel_rfl | (unfold isType; rw [isSubtype_type]; kernel_rfl)) ?_)
    refine PySem.W.KFB.if_not rfl ?_
    refine wpAny_bind (wpAny_of_eq (a := true) PySem.F.conv_sub_bool ?_)
    refine PySem.W.KFB.if_not rfl ?_
    refine wpAny_bind (wpAny_of_eq (a := [.ref x]) (by kernel_rfl) ?_)
    show wpAny _ _ (truthy (.ref x) >>= _) _ _ s
    refine wpAny_bind ?_
    unfold truthy
    refine wpAny_bind (m := callSpecial? (.ref x) (Str.ofString "__bool__")) (PySem.W.special_fn X I hs (beq_iff_eq.mp hf) (wpAny_mono h (fun r s' hr => ?_) fun _ _ y => y))
    obtain ⟨k, rfl, q⟩ := hr
    exact wpAny_pure (wpAny_pure ⟨k, rfl, q⟩)
  · rintro obj s₁ ⟨k, rfl, hq⟩
    exact ⟨PySem.typeIs_bool _ _, PySem.F.args_object_init_2 _ _, object_init_meets PySem.F.called_bool.init.lookup PySem.F.called_bool.made (by decide) prog w A.in1 _ s₁ ⟨PySem.typeIs_bool _ _, rfl, hq⟩⟩

/-- x != b by object's own __ne__ and the class's __eq__ -/
theorem ne_own {Q : Value → Shared → Prop} (hu : A.units + 1 < cLine) (X : K.In s.heap) (I : PySem.W.InstAt s.heap x ox C odd) (hb : PySem.W.Looks (model prog w) s.heap (typeOf b) tb) (hn : PySem.W.notFirst K C tb = true)
    (hne : PySem.W.findIn K (.ref C) "__ne__" = some (some (.builtin "object.__ne__"))) (hob : PySem.W.subIn K (.ref C) (.type "object") = some true)
    (hs : PySem.W.findIn K (.ref C) "__eq__" = some (some (.ref f))) (hf : PySem.W.isFn K (.ref f) = true)
    (h : wpAny (model prog w) A.in1 (call (.ref f) [.ref x, b]) (fun r s1 => ∃ k, r = Value.bool k ∧ Q (.bool (!k)) s1) E s) : wpAny (model prog w) A (compareOp .NotEq (.ref x) b) Q E s := by
  have sp : PySem.W.Looks (model prog w) s.heap (specialOf (.ref x) "__ne__") (some (.builtin "object.__ne__")) := I.type.andThen (PySem.W.looks_findIn X hne)
  have iv : PySem.W.Looks (model prog w) s.heap (isInstance (.ref x) (.type "object")) true := I.type.andThen (PySem.W.looks_subIn X hob)
  have hu1 : A.in1.units < cLine := by
    show A.units + 1 < cLine
    exact hu
  have inner : wpAny (model prog w) A (call (.builtin "object.__ne__") ([.ref x] ++ [b])) (fun v s' => ∃ k, v = Value.bool k ∧ Q v s') E s := by
    refine wpAny_call (codeAny_call_builtin PySem.F.cmp_object.ne.plain PySem.F.cmpEntry_ne (@PySem.W.check_slot (model prog w) _ _ _ "object.__ne__" "object" "__ne__" (.ref x) [b] [] _ (by decide +kernel) (by decide +kernel) iv (PySem.F.cmpArgs_ne _ _) ?_))
    unfold Builtin.«object.__ne__»
    refine wpAny_bind (wpAny_of_eq (a := (Value.ref x, [b])) (by kernel_rfl) ?_)
    show wpAny _ _ (cRoomFor "comparison" [.ref x, b] >>= _) _ _ s
    refine wpAny_bind (wpAny_cRoomFor hu1 ?_)
    refine wpAny_bind (m := callSpecialIfBound? (.ref x) (Str.ofString "__eq__") [b]) (PySem.W.ifBound_K X I hs hf (wpAny_mono h (fun r s' hr => ?_) fun _ _ y => y))
    obtain ⟨k, rfl, q⟩ := hr
    show wpAny _ _ (truthy (.bool k) >>= _) _ _ s'
    refine wpAny_bind (wpAny_truthy_bool ?_)
    exact wpAny_pure ⟨!k, rfl, q⟩
  have one : wpAny (model prog w) A (tryCompare (.ref x) "__ne__" b) (fun r s' => ∃ v, r = some v ∧ Q v s') E s := by
    unfold tryCompare
    refine wpAny_bind (NtL.csib sp (PySem.F.cmp_object.ne.bind _) (wpAny_mono inner (fun v s' hv => ?_) fun _ _ e => e))
    obtain ⟨k, rfl, q⟩ := hv
    exact wpAny_pure ⟨_, rfl, q⟩
  show wpAny _ _ (richCompare .NotEq (.ref x) b) _ _ _
  unfold richCompare
  simp only [oneThing_ref]
  refine wpAny_holding (wpAny_bind (wpAny_cRoomFor (Nat.lt_of_succ_lt hu) ?_))
  refine wpAny_bind (I.type.here (wpAny_bind (hb.here ?_)))
  split
  · rename_i q
    have e : PySem.W.subIn K tb (.ref C) = some false := by
      rcases Bool.or_eq_true_iff.mp hn with e | e
      · rw [beq_iff_eq.mp e] at q; simp at q
      · exact beq_iff_eq.mp e
    refine wpAny_bind ((PySem.W.looks_subIn X e).here ?_)
    simp only [Bool.false_eq_true, if_false]
    refine wpAny_bind (wpAny_mono one (fun r s' z => ?_) fun _ _ e => e)
    obtain ⟨v, rfl, hq⟩ := z
    exact wpAny_pure hq
  · refine wpAny_bind (wpAny_pure ?_)
    simp only [Bool.false_eq_true, if_false]
    refine wpAny_bind (wpAny_mono one (fun r s' z => ?_) fun _ _ e => e)
    obtain ⟨v, rfl, hq⟩ := z
    exact wpAny_pure hq
end

section
variable {X : Cx} {CX : CXT} {C g : Addr} {fd : FuncData} {ps : List Str} {n : Nat} {sp : Sp} {E : XK} {pins : List (Addr × Obj)} {σ : L2.St} {H : Hp} {s : Shared} {a dx : Addr} {fs : List (Str × V)}
theorem inst_of (I : Inv X pins σ H s) (h : H a = some (.ins C dx fs)) : ∃ od, PySem.W.InstAt s.heap a (PySem.W.instObj C dx) C (some od) := by
  obtain ⟨mA, J, _⟩ := ins_get I.hok h
  obtain ⟨od, J, _⟩ := J.look
  exact ⟨od, J⟩

/-- the callee runs below the running body -/
theorem run_in {A : Around} {Q : VK} {us : List Value} {vs : List V} (F : FnOk X.prog X.w X.K X.mg X.base CX n g fd ps sp) (hb : Binds X.K fd ps []) (hr : Room n A) (e0 : Env0 X.prog X.w X.K X.mg X.base A X.stack s H) (hx : Passes CX X E) (I : Inv X pins σ H s)
    (r : Vals vs us) (h : sp vs H Q E) : wpAny (model X.prog X.w) A (call (.ref g) us) (EP X pins σ Q) X.xe s := by
  have hl : (us ++ []).length = ps.length := by rw [List.append_nil, ← r.length]; exact F.len _ _ _ _ h
  refine wpAny_call (codeAny_mono (F.run A X.stack s H ⟨us, []⟩ us vs Q E hr e0 (by
    have := hb s us I.kIn hl
    simpa using this) r h) fun r s' hq => ?_)
  cases r with
  | error e => exact hx pins σ H s e s' I hq
  | ok fl =>
    cases fl with
    | ret u => exact I.after hq
    | next => exact False.elim hq
    | brk => exact False.elim hq
    | cont => exact False.elim hq

/-- x op y, both instances of the class at C -/
def rOwn2 (C : Addr) (sp : Sp) (E : XK) : R2 := fun x y H Q => ∃ a dx fs b dy gs, x = .ref a ∧ y = .ref b ∧ H a = some (.ins C dx fs) ∧ H b = some (.ins C dy gs) ∧ sp [x, y] H Q E
theorem op_bin {op : Operator} (hc : PySem.W.selfFirst X.K C = true) (hs : PySem.W.findIn X.K (.ref C) (PySem.dunder op.info.2) = some (some (.ref g))) (hf : PySem.W.isFn X.K (.ref g) = true)
    (F : FnOk X.prog X.w X.K X.mg X.base CX n g fd ps sp) (hb : Binds X.K fd ps []) (hr : Room n X.A) (hx : Passes CX X E) : OpR X (binaryOp op) (rOwn2 C sp E) := by
  intro pins s σ H x y v u Q I rx ry h
  obtain ⟨a, dx, fs, b, dy, gs, rfl, rfl, ha, hb', q⟩ := h
  cases rx
  cases ry
  obtain ⟨od, J⟩ := inst_of I ha
  obtain ⟨od', J'⟩ := inst_of I hb'
  obtain ⟨m, hF⟩ := I.fr
  refine PySem.W.binop_K hF I.ok.mod.kin J J'.type hc hs hf ?_
  refine wpAny_mono (run_in (us := [.ref a, .ref b]) (vs := [.ref a, .ref b]) F hb hr I.env0 hx I (.cons rfl (.cons rfl .nil)) q) (fun w s' z => ?_) fun _ _ x => x
  obtain ⟨z', H', I', rz, qz⟩ := z
  exact SlX.cmpback rz ⟨z', H', I', rz, qz⟩
/-- ~x -/
def rOwn1 (C : Addr) (sp : Sp) (E : XK) : V → Hp → VK → Prop := fun x H Q => ∃ a dx fs, x = .ref a ∧ H a = some (.ins C dx fs) ∧ sp [x] H Q E
theorem un_own (hs : PySem.W.findIn X.K (.ref C) "__invert__" = some (some (.ref g))) (hf : PySem.W.isFn X.K (.ref g) = true)
    (F : FnOk X.prog X.w X.K X.mg X.base CX n g fd ps sp) (hb : Binds X.K fd ps []) (hr : Room n X.A) (hx : Passes CX X E) : UnR X (unaryOp .Invert) (rOwn1 C sp E) := by
  intro pins s σ H x v Q I rx h
  obtain ⟨a, dx, fs, rfl, ha, q⟩ := h
  cases rx
  obtain ⟨od, J⟩ := inst_of I ha
  obtain ⟨m, hF⟩ := I.fr
  exact PySem.W.ksp_inv hF I.ok.mod.kin J hs hf (run_in (us := [.ref a]) (vs := [.ref a]) F hb hr I.env0 hx I (.cons rfl .nil) q)
/-- v in x -/
def rOwnIn (C : Addr) (sp : Sp) (E : XK) : R2 := fun x y H Q => ∃ b dx fs, y = .ref b ∧ H b = some (.ins C dx fs) ∧ sp [y, x] H (fun z H' => ∃ k, z = .bl k ∧ Q (.bl k) H') E
theorem op_inOwn (hs : PySem.W.findIn X.K (.ref C) "__contains__" = some (some (.ref g))) (hf : PySem.W.isFn X.K (.ref g) = true)
    (F : FnOk X.prog X.w X.K X.mg X.base CX n g fd ps sp) (hb : Binds X.K fd ps []) (hr : Room n X.A) (hx : Passes CX X E) : OpR X (compareOp .In) (rOwnIn C sp E) := by
  intro pins s σ H x y v u Q I rx ry h
  obtain ⟨b, dx, fs, rfl, hb', q⟩ := h
  cases ry
  obtain ⟨od, J⟩ := inst_of I hb'
  obtain ⟨m, hF⟩ := I.fr
  refine PySem.W.in_K hF I.ok.mod.kin J hs hf (wpAny_mono (run_in (us := [.ref b, v]) (vs := [.ref b, x]) F hb hr I.env0 hx I (.cons rfl (.cons rx .nil)) q) (fun w s' z => ?_) fun _ _ x => x)
  obtain ⟨z', H', I', rz, k, rfl, qz⟩ := z
  cases rz
  exact wpAny_truthy_bool ⟨.bl k, H', I', rfl, qz⟩
/-- bool(x) -/
def rOwnBool (C : Addr) (sp : Sp) (E : XK) : List V → Hp → VK → Prop := fun xs H Q => ∃ a dx fs, xs = [.ref a] ∧ H a = some (.ins C dx fs) ∧ sp [.ref a] H (fun z H' => ∃ k, z = .bl k ∧ Q (.bl k) H') E
theorem call_boolOwn (hs : PySem.W.findIn X.K (.ref C) "__bool__" = some (some (.ref g))) (hf : PySem.W.isFn X.K (.ref g) = true)
    (F : FnOk X.prog X.w X.K X.mg X.base CX n g fd ps sp) (hb : Binds X.K fd ps []) (hr : Room (n + 2) X.A) (hx : Passes CX X E) : CallR X (.type "bool") (rOwnBool C sp E) := by
  intro pins s σ H xs us Q I r h
  obtain ⟨a, dx, fs, rfl, ha, q⟩ := h
  obtain ⟨u, rfl, ru⟩ := vals1 r
  cases ru
  obtain ⟨od, J⟩ := inst_of I ha
  have hr2 : Room n X.A.in1.in1 := (show Room (n + 1) X.A.in1 from Room.in1 hr).in1
  refine bool_own I.kIn J hs hf (wpAny_mono (run_in (us := [.ref a]) (vs := [.ref a]) F hb hr2 I.env0.in1.in1 hx I (.cons rfl .nil) q) (fun w s' z => ?_) fun _ _ x => x)
  obtain ⟨z', H', I', rz, k, rfl, qz⟩ := z
  cases rz
  exact ⟨k, rfl, .bl k, H', I', rfl, qz⟩
/-- x == y -/
def rOwnEq (C : Addr) (sp : Sp) (E : XK) : R2 := fun x y H Q => ∃ a dx fs b dy gs, x = .ref a ∧ y = .ref b ∧ H a = some (.ins C dx fs) ∧ H b = some (.ins C dy gs) ∧ sp [x, y] H (fun z H' => ∃ k, z = .bl k ∧ Q (.bl k) H') E
theorem op_eqOwn (hs : PySem.W.findIn X.K (.ref C) "__eq__" = some (some (.ref g))) (hf : PySem.W.isFn X.K (.ref g) = true)
    (F : FnOk X.prog X.w X.K X.mg X.base CX n g fd ps sp) (hb : Binds X.K fd ps []) (hr : Room n X.A) (hx : Passes CX X E) : OpR X (compareOp .Eq) (rOwnEq C sp E) := by
  intro pins s σ H x y v u Q I rx ry h
  obtain ⟨a, dx, fs, b, dy, gs, rfl, rfl, ha, hb', q⟩ := h
  cases rx
  cases ry
  obtain ⟨od, J⟩ := inst_of I ha
  obtain ⟨od', J'⟩ := inst_of I hb'
  obtain ⟨m, hF⟩ := I.fr
  show wpAny _ _ (richCompare .Eq (.ref a) (.ref b)) _ _ _
  refine PySem.W.cmp_K (op := .Eq) (tb := .ref C) hr.units0 hF I.ok.mod.kin J J'.type (by simp [PySem.W.notFirst]) hs hf ?_
  refine wpAny_mono (run_in (us := [.ref a, .ref b]) (vs := [.ref a, .ref b]) F hb hr I.env0 hx I (.cons rfl (.cons rfl .nil)) q) (fun w s' z => ?_) fun _ _ x => x
  obtain ⟨z', H', I', rz, k, rfl, qz⟩ := z
  cases rz
  exact ⟨.bl k, H', I', rfl, qz⟩
/-- x != y -/
def rOwnNe (C : Addr) (sp : Sp) (E : XK) : R2 := fun x y H Q => ∃ a dx fs b dy gs, x = .ref a ∧ y = .ref b ∧ H a = some (.ins C dx fs) ∧ H b = some (.ins C dy gs) ∧ sp [x, y] H (fun z H' => ∃ k, z = .bl k ∧ Q (.bl (!k)) H') E
theorem op_neOwn (hne : PySem.W.findIn X.K (.ref C) "__ne__" = some (some (.builtin "object.__ne__"))) (hob : PySem.W.subIn X.K (.ref C) (.type "object") = some true)
    (hs : PySem.W.findIn X.K (.ref C) "__eq__" = some (some (.ref g))) (hf : PySem.W.isFn X.K (.ref g) = true)
    (F : FnOk X.prog X.w X.K X.mg X.base CX n g fd ps sp) (hb : Binds X.K fd ps []) (hr : Room (n + 1) X.A) (hx : Passes CX X E) : OpR X (compareOp .NotEq) (rOwnNe C sp E) := by
  intro pins s σ H x y v u Q I rx ry h
  obtain ⟨a, dx, fs, b, dy, gs, rfl, rfl, ha, hb', q⟩ := h
  cases rx
  cases ry
  obtain ⟨od, J⟩ := inst_of I ha
  obtain ⟨od', J'⟩ := inst_of I hb'
  refine ne_own (tb := .ref C) (hu_of hr) I.kIn J J'.type (by simp [PySem.W.notFirst]) hne hob hs hf ?_
  refine wpAny_mono (run_in (us := [.ref a, .ref b]) (vs := [.ref a, .ref b]) F hb hr.in1 I.env0.in1 hx I (.cons rfl (.cons rfl .nil)) q) (fun w s' z => ?_) fun _ _ x => x
  obtain ⟨z', H', I', rz, k, rfl, qz⟩ := z
  cases rz
  exact ⟨k, rfl, .bl (!k), H', I', rfl, qz⟩
/-- x in t, t a tuple of data -/
def rInT (K : PySem.W.Frag) : R2 := fun x y H Q => ∃ d ds, Dp K H x d ∧ Dp K H y (.tuple ds) ∧ SeqAt.shaped d = true ∧ SeqAt.shaped (.tuple ds) = true ∧ Q (.bl (ds.any fun z => PyData.eqv z d)) H
theorem op_inT (hu : X.A.units + 65 < cLine) : OpR X (compareOp .In) (rInT X.K) := by
  intro pins s σ H x y v u Q I rx ry h
  obtain ⟨d, ds, hd, he, sd, se, q⟩ := h
  obtain ⟨as, r1⟩ := Dp.reads I d x v hd rx
  obtain ⟨bs, r2⟩ := Dp.reads I (.tuple ds) y u he ry
  exact SeqAt.in_tuple_reads r2 r1 (SeqAt.canLay_of_shaped se) (SeqAt.canLay_of_shaped sd) (room_in_shaped sd hu) ⟨.bl _, H, I, rfl, q⟩
/-- (10 ** 59) ** 10 -/
theorem op_powB : OpR X (binaryOp .Pow) (rI (fun i j => 0 ≤ j ∧ (Builtin.Int.intBits i : Int) * j ≤ 2 ^ 27) fun i j => .int (i ^ j.toNat)) := opI fun _ _ _ _ _ _ _ hc q => PyProof.Rows.pow_int hc.1 hc.2 q
end

section
variable {X : Cx} {CX : CXT} {k i : Nat} {f C p q : Addr} {fd : FuncData} {ps : List Str} {sp : Sp} {E : XK} {x m : Str} {pos apos ppos : Pos} {o e : Expr} {es : List Expr} {t : TA} {ta : TE} {mc : Value} {pl : Sem Bool}
/-- cls(e, ..), the class held by the i-th slot -/
def tMakeL (i : Nat) (C : Addr) (sp : Sp) (E : XK) (t : TA) : TE := fun σ H Q => σ[i]? = some (some (.ref C)) ∧ tMake C sp [] E t σ H Q
theorem pe_makeL (M : Mk X.K C f) (F : FnOk X.prog X.w X.K X.mg X.base CX k f fd ps sp) (hr : Room (k + 1) X.A) (hN : X.N[i]? = some x) (hv : Vis X.env.scope x) (hb : Binds X.K fd ps []) (hx : Passes CX X E)
    (ha : PA X (e :: es) t) (hdb : (x == ("__debug__" : Str)) = false := by decide) (hcd : (x == ("__classdict__" : Str)) = false := by decide)
    (he : starEach (e :: es) X.env = (false, eval e X.env) :: starEach es X.env := by rfl) (hpl : (backTo pos (starEach es X.env)).any (·.1) = false := by rfl) :
    PE X (.Call (.Name x ppos) (e :: es) [] pos) (tMakeL i C sp E t) := by
  refine ⟨fun pins s σ H Q I h => ?_⟩
  obtain ⟨hs, ht⟩ := h
  refine wpAny_Call_Name_kw (thn ((pe_var (pos := ppos) hN hv hdb hcd).run pins s σ H (fun v H1 => v = .ref C ∧ H1 = H) I ⟨.ref C, hs, rfl, rfl⟩) fun u s1 ⟨v, H1, I1, r1, q1⟩ => ?_)
  obtain ⟨rfl, rfl⟩ := q1
  cases r1
  refine PySem.W.callWith_K (h₀ := X.base) I1.ok.mod.kin M.kp (thn (ha.run pos pins s1 σ _ _ I1 ht) fun us s2 ⟨vs, H2, I2, r, q⟩ => ⟨I2.kIn, ?_⟩) he hpl
  exact run_make M F hr hb .nil hx I2 r q
/-- C.m(), m a classmethod without other parameters -/
def tCMeth0 (C : Addr) (sp : Sp) (E : XK) (ta : TE) : TE := fun σ H Q => ta σ H fun x H1 => x = .ref C ∧ sp [.ref C] H1 Q E
theorem pe_cmeth0 (he : PE X o ta) (r : ClX.CRead X.K C mc) (c : ClX.CMet X.K C mc m p q) (F : FnOk X.prog X.w X.K X.mg X.base CX k q fd ps sp) (hb : Binds X.K fd ps []) (hr : Room k X.A) (hx : Passes CX X E)
    (ht : eval (.Call (.Attribute o m apos) [] [] pos) X.env = (do
      let ov ← eval o X.env
      standAt apos.atName
      let (f, first) ← holding [ov] (getMethod ov m pl)
      callWith pos f first (backTo pos (starEach [] X.env)) (backToKw pos (keywordEach [] X.env))) := by rfl) :
    PE X (.Call (.Attribute o m apos) [] [] pos) (tCMeth0 C sp E ta) := by
  refine ⟨fun pins s σ H Q I h => ?_⟩
  refine PySem.W.methodCall_KW (pl := pl) (thn (he.run pins s σ H _ I h) fun u s1 ⟨x, H1, I1, rx, ex, hq⟩ => ?_) ht
  subst ex
  obtain rfl : u = Value.ref C := rx
  refine ClX.getmethcm_ok I1 r c fun s2 I2 => ?_
  refine PySem.W.callWith_M0 ⟨ClX.pin_at I2, I2.kIn⟩ c.fi ?_
  have z : wpAny (model X.prog X.w) X.A (call (.ref s1.heap.objs.size) []) (EP X ((s1.heap.objs.size, PySem.W.methodObj (.ref q) (.ref C)) :: pins) σ Q) X.xe s2 :=
    wpAny_call (PySem.W.method_call (ClX.pin_at I2) (by
      have hl : ([Value.ref C] ++ []).length = ps.length := by rw [List.append_nil]; exact F.len _ _ _ _ hq
      refine codeAny_mono (F.run X.A X.stack s2 H1 ⟨[.ref C], []⟩ [.ref C] [.ref C] Q E hr I2.env0 (by
        have := hb s2 [.ref C] I2.kIn hl
        simpa using this) (.cons rfl .nil) hq) fun r s' hq' => ?_
      cases r with
      | error e => exact hx _ σ _ _ e s' I2 hq'
      | ok fl =>
        cases fl with
        | ret u => exact I2.after hq'
        | next => exact False.elim hq'
        | brk => exact False.elim hq'
        | cont => exact False.elim hq'))
  exact thn z fun _ _ y => ClX.unpinE y
end
end K03


-- text K03Base
set_option Elab.async false
set_option linter.all false
set_option maxRecDepth 100000
set_option maxHeartbeats 4000000
/-! The text by places, the builtins, small words. -/
namespace K03
open PySem PySem.Spec PyProof.Rows L2
def topS (i : Nat) : Stmt := PySem.Challenge.pw_deepenough_k03_whole_set_algebra.main.body.getD i (.Pass ⟨0, 0, 0, 0⟩)
abbrev sIsInteger : Stmt := topS 8
abbrev sIsBelow : Stmt := topS 9
abbrev sIsAscending : Stmt := topS 10
abbrev sAreBelow : Stmt := topS 11
abbrev sHasPeriod : Stmt := topS 19
abbrev sLeastPeriod : Stmt := topS 20
abbrev sLeastFirst : Stmt := topS 21
abbrev sDivisor : Stmt := topS 22
abbrev sLimits : Stmt := topS 23
abbrev sBegins : Stmt := topS 24
abbrev sRequire : Stmt := topS 25
abbrev sHas : Stmt := topS 26
abbrev sJoined : Stmt := topS 27
abbrev sUrn : Stmt := topS 29
abbrev sToss : Stmt := topS 30
abbrev sPick : Stmt := topS 31
abbrev sDrawn : Stmt := topS 32
abbrev sLHas : Stmt := topS 33
abbrev sLLimits : Stmt := topS 34
abbrev sDue : Stmt := topS 35
abbrev sIsBy : Stmt := topS 36
abbrev sRight : Stmt := topS 37
abbrev sLaw : Stmt := topS 38
abbrev sInit : Stmt := inClass sLimits 0
abbrev sEvery : Stmt := inClass sLimits 1
abbrev sNone : Stmt := inClass sLimits 2
abbrev sWithin : Stmt := inClass sLimits 15
abbrev sAnd : Stmt := inClass sLimits 16
abbrev sOr : Stmt := inClass sLimits 17
abbrev sSub : Stmt := inClass sLimits 18
abbrev sXor : Stmt := inClass sLimits 19
abbrev sInvert : Stmt := inClass sLimits 20
abbrev sContains : Stmt := inClass sLimits 21
abbrev sBool : Stmt := inClass sLimits 22
abbrev sEq : Stmt := inClass sLimits 24

/-- the builtins that the program names: none of them is bound anew -/
structure Bi (mg : Str → Option Value) : Prop where
  isi : mg "isinstance" = none
  int : mg "int" = none
  bool : mg "bool" = none
  tuple : mg "tuple" = none
  all : mg "all" = none
  zip : mg "zip" = none
  min : mg "min" = none
  max : mg "max" = none
  range : mg "range" = none
  sorted : mg "sorted" = none
  len : mg "len" = none
  abs : mg "abs" = none

/-- a number as a value -/
abbrev nv (n : Nat) : V := .int (n : Int)
theorem nv_mod (a b : Nat) : V.int ((a : Int) % (b : Int)) = nv (a % b) := congrArg V.int (Int.natCast_emod a b).symm
theorem nv_add (a b : Nat) : V.int ((a : Int) + (b : Int)) = nv (a + b) := congrArg V.int (Int.natCast_add a b).symm
theorem nv_mul (a b : Nat) : V.int ((a : Int) * (b : Int)) = nv (a * b) := congrArg V.int (Int.natCast_mul a b).symm
theorem nv_div (a b : Nat) : V.int ((a : Int) / (b : Int)) = nv (a / b) := congrArg V.int (Int.natCast_ediv a b).symm
theorem nv_inj {a b : Nat} (h : nv a = nv b) : a = b := by
  have := V.int.inj h
  omega
theorem get_nv {ns : List Nat} {i : Nat} {y : V} (h : (ns.map nv)[i]? = some y) : ∃ n, ns[i]? = some n ∧ y = nv n := by
  rw [List.getElem?_map] at h
  cases e : ns[i]? with
  | none => rw [e] at h; cases h
  | some n => rw [e] at h; exact ⟨n, rfl, (Option.some.inj h).symm⟩
theorem nv_ints (ns : List Nat) : ns.map nv = (ns.map fun n : Nat => (n : Int)).map V.int := by
  rw [List.map_map]
  rfl
theorem same_upd {H : Hp} {p : Addr} {o : HO} (h : H p = none) : Same H (upd H p o) := fun b x e => by
  rw [upd_ne (ne_of_none e h)]
  exact e
theorem _root_.L2.Same.up {H H1 : Hp} {p : Addr} {o : HO} (x : Same H H1) (h : H1 p = none) : Same H (upd H1 p o) := x.trans (same_upd h)
theorem _root_.L2.Same.sqt {K : PySem.W.Frag} {H H' : Hp} {a : Addr} {xs : List V} (e : Same H H') (h : SqT K H a xs) : SqT K H' a xs := by
  rcases h with (h | ⟨o, h⟩) | h
  · exact .inl (.inl (e _ _ h))
  · exact .inl (.inr ⟨o, e _ _ h⟩)
  · exact .inr h
/-- a written object of ours changes; all that stood before stays -/
theorem _root_.L2.Same.put {H H1 : Hp} {p : Addr} {o : HO} (x : Same H H1) (h : H p = none) : Same H (upd H1 p o) := fun b y e => by
  rw [upd_ne (ne_of_none e h)]
  exact x b y e
/-- is n one of the numbers -/
theorem inV_nv (n : Nat) (ns : List Nat) : inV (nv n) (ns.map nv) = ns.contains n := by
  unfold inV
  induction ns with
  | nil => rfl
  | cons a r ih =>
    rw [List.map_cons, List.any_cons, ih, List.contains_cons]
    congr 1
    show ((a : Int) == (n : Int)) = (n == a)
    apply Bool.eq_iff_iff.mpr
    simp only [beq_iff_eq]
    omega
theorem flat_nv (ns : List Nat) : (ns.map nv).all flatV = true := by
  rw [List.all_eq_true]
  intro x hx
  obtain ⟨n, _, rfl⟩ := List.mem_map.mp hx
  rfl
theorem small_len {n : Nat} (h : n ≤ 1000) : n ≤ sizeLine := Nat.le_of_lt (small1000 h)
/-- a def as a constant of the module -/
theorem cal_of {P : Program} {w : World} {K : PySem.W.Frag} {mg : Str → Option Value} {base : Heap} {k : Nat} {x : Str} {f : Addr} {fd : FuncData} {ps : List Str} {sp : Sp} (F : FnOk P w K mg base CX0 k f fd ps sp) (hm : mg x = some (.ref f))
    (kp : PySem.W.keepIn K (.ref f) = true) (b : Binds K fd ps []) : C8.Cal P w K mg base k x sp [] := ⟨f, fd, ps, [], F, hm, kp, b, .nil⟩
end K03


-- text K03A
set_option Elab.async false
set_option linter.all false
set_option maxRecDepth 100000
set_option maxHeartbeats 4000000
/-! The small defs of base.words; greatest_divisor, begins_of. -/
namespace K03
open PySem PySem.Spec PyProof.Rows L2
theorem q_bl {Q : VK} {b c : Bool} {H : Hp} (h : Q (.bl b) H) (e : c = b) : Q (.bl c) H := e ▸ h
theorem q_v {Q : VK} {x y : V} {H : Hp} (h : Q x H) (e : y = x) : Q y H := e ▸ h
section
variable {P : Program} {w : World} {K : PySem.W.Frag} {mg : Str → Option Value} {base : Heap}
/-! ### is_integer -/
def spInt : Sp := fun vs H Q _ => ∃ n : Nat, vs = [nv n] ∧ n ≤ 100000 ∧ Q (.bl true) H
theorem scInt : FnScope ["value"] ["value"] (defScope sIsInteger) := ⟨rfl, rfl, rfl, by decide +kernel, rfl, by decide +kernel, by decide +kernel⟩
theorem ok_int {f : Addr} {fd : FuncData} (F : Fun K "is_integer" "is_integer" sIsInteger f fd) (B : Bi mg) (hT : ∃ u, mg "TOP" = some u ∧ RelV (.int (10 ^ 40)) u) : FnOk P w K mg base CX0 1 f fd ["value"] spInt := by
  refine F.ok scInt (fun vs H Q E h => ?_) (fun cdv A outer s H vs Q E hr h => ?_)
  · obtain ⟨n, rfl, _⟩ := h
    rfl
  · obtain ⟨n, rfl, hn, k⟩ := h
    refine ⟨_, pss_one (ps_ret (pe_and (pe_callB call_isi (by rfl) B.isi (by decide +kernel) (pa_cons (pv 0) (pa_cons (pe_bltn (v := .ty "int") (by rfl) B.int (by decide +kernel) rfl) pa_nil)))
      (pe_and (pe_not (pe_callB call_isi (by rfl) B.isi (by decide +kernel) (pa_cons (pv 0) (pa_cons (pe_bltn (v := .ty "bool") (by rfl) B.bool (by decide +kernel) rfl) pa_nil))))
      (pe_one (pe_chain op_lt op_lt (pe_un un_neg (C8.pe_gc (by rfl) hT)) (pv 0) (C8.pe_gc (by rfl) hT)))))), ?_⟩
    refine ⟨_, rfl, nv n, .ty "int", _, _, true, rfl, .ty _, .base (.int _), kit_ty (by decide +kernel), true, rfl, ?_⟩
    refine iteT ⟨_, rfl, nv n, .ty "bool", _, _, false, rfl, .ty _, .base (.int _), kit_ty (by decide +kernel), false, rfl, true, rfl, ?_⟩
    refine iteT ⟨_, rfl, _, rfl, _, _, rfl, rfl, true, ?_, ?_⟩
    · exact congrArg V.bl (decide_eq_true (by show -(10 ^ 40 : Int) < (n : Int); omega))
    · refine iteT ⟨_, _, rfl, rfl, ?_⟩
      exact q_bl k (decide_eq_true (show (n : Int) < 10 ^ 40 by omega))
/-! ### is_below -/
def spBelow : Sp := fun vs H Q _ => ∃ n m : Nat, vs = [nv n, nv m] ∧ n < m ∧ m ≤ 100000 ∧ Q (.bl true) H
theorem scBelow : FnScope ["value", "limit"] ["value", "limit"] (defScope sIsBelow) := ⟨rfl, rfl, rfl, by decide +kernel, rfl, by decide +kernel, by decide +kernel⟩
theorem ok_below {f : Addr} {fd : FuncData} (F : Fun K "is_below" "is_below" sIsBelow f fd) (cI : C8.Cal P w K mg base 1 "is_integer" spInt []) : FnOk P w K mg base CX0 2 f fd ["value", "limit"] spBelow := by
  refine F.ok scBelow (fun vs H Q E h => ?_) (fun cdv A outer s H vs Q E hr h => ?_)
  · obtain ⟨n, m, rfl, _⟩ := h
    rfl
  · obtain ⟨n, m, rfl, hn, hm, k⟩ := h
    refine ⟨_, pss_one (ps_ret (pe_and (C8.pe_c cI hr (by decide) (by rfl) (pa_cons (pv 0) pa_nil)) (pe_one (pe_chain op_le op_lt pe_int (pv 0) (pv 1))))), ?_⟩
    refine ⟨_, rfl, n, rfl, by omega, true, rfl, iteT ⟨_, rfl, _, _, rfl, rfl, true, ?_, ?_⟩⟩
    · exact congrArg V.bl (decide_eq_true (by show (0 : Int) ≤ (n : Int); omega))
    · refine iteT ⟨_, rfl, _, _, rfl, rfl, ?_⟩
      exact q_bl k (decide_eq_true (show (n : Int) < (m : Int) by omega))
/-! ### is_ascending -/
def spAsc : Sp := fun vs H Q _ => ∃ (t : Addr) (ns : List Nat), vs = [.ref t] ∧ H t = some (.tup (ns.map nv)) ∧ ns.length ≤ 1000 ∧ ns.Pairwise (· < ·) ∧ ∀ H', Same H H' → Q (.bl true) H'
theorem scAsc : FnScope ["items", "one", "other"] ["items"] (defScope sIsAscending) := ⟨rfl, rfl, rfl, by decide +kernel, rfl, by decide +kernel, by decide +kernel⟩
theorem cut1 (xs : List V) : cutV xs (some 1) none = xs.drop 1 := by
  unfold cutV
  rw [show HT.sIx xs.length 0 (some 1) = min 1 xs.length from HT.sIx_nat xs.length 0 1, HT.sIx_none]
  cases xs with
  | nil => rfl
  | cons x r =>
    rw [show min 1 (x :: r).length = 1 by
      rw [List.length_cons]
      omega]
    show (List.take ((x :: r).length - 1) r) = r
    rw [List.length_cons, Nat.add_sub_cancel]
    exact List.take_length
/-- t[1:] -/
theorem slA_tail {K : PySem.W.Frag} {H : Hp} {t : Addr} {ns : List Nat} {Q : VK} (ht : H t = some (.tup (ns.map nv))) (h : ∀ (b : Addr) (H1 : Hp), Same H H1 → H1 b = some (.tup ((ns.drop 1).map nv)) → Q (.ref b) H1) : rSlA K (.ref t) (some 1) none H Q := by
  refine ⟨t, ns.map nv, rfl, .inl (.inl ht), fun hw => ?_, fun hw p np => ?_⟩
  · have e0 : ns = [] := by
      have e1 := hw.1
      rw [show HT.sIx (ns.map nv).length 0 (some 1) = min 1 (ns.map nv).length from HT.sIx_nat _ 0 1, List.length_map] at e1
      cases ns with
      | nil => rfl
      | cons a r =>
        rw [List.length_cons] at e1
        omega
    exact h t H (Same.refl H) (by rw [ht, e0]; rfl)
  · exact h p _ (same_upd np) (by rw [upd_same, cut1, List.map_drop])
theorem ok_asc {f : Addr} {fd : FuncData} (F : Fun K "is_ascending" "is_ascending" sIsAscending f fd) (B : Bi mg) : FnOk P w K mg base CX0 1 f fd ["items"] spAsc := by
  refine F.ok scAsc (fun vs H Q E h => ?_) (fun cdv A outer s H vs Q E hr h => ?_)
  · obtain ⟨t, ns, rfl, _⟩ := h
    rfl
  · obtain ⟨t, ns, rfl, ht, hlen, hasc, k⟩ := h
    refine ⟨_, pss_one (ps_ret (pe_callB (cr_all rfl) (by rfl) B.all (by decide +kernel) (pa_cons
      (pe_lc (own := [("one", 1), ("other", 2)]) (g := gTup K 2 (gCons (gName 1) (gCons (gName 2) gNil))) rfl scAsc.nd
        (RZ.pi_zipA (by rfl) B.zip (pa_cons (pv 0) (pa_cons (pe_slice sl_tupA (pv 0) (po_some pe_int) po_none) pa_nil)))
        (blkOk_by (N := ["items", "one", "other"]) (sc := defScope sIsAscending) (by decide +kernel))
        (fun _ _ _ _ _ => pg_tup rfl (pgs_cons (pg_name (i := 1) scAsc.nd rfl (Or.inl rfl)) (pgs_cons (pg_name (i := 2) scAsc.nd rfl (Or.inl rfl)) pgs_nil)))
        (fun _ _ _ _ _ => pts_nil) (fun _ _ _ _ _ => pe_cmpR op_lt (pv 1) (pv 2) (nomark _))) pa_nil))), ?_⟩
    refine ⟨_, rfl, _, rfl, 1, rfl, ?_⟩
    dsimp only [tNoPart]
    refine slA_tail (K := K) ht fun b H1 s1 hb => ?_
    refine ⟨t, b, ns.map nv, (ns.drop 1).map nv, rfl, .inr ⟨.inl (.inl (s1 _ _ ht)), .inl (.inl hb), ?_⟩⟩
    intro D hD
    have s2 : Same H1 (upd H1 D (.lst [])) := same_upd hD
    refine ⟨fun i m H2 => i + m = ns.length - 1 ∧ Same H1 H2 ∧ H2 D = some (.lst ((List.replicate i true).map V.bl)), ⟨ns.length - 1, by omega, s2, upd_same⟩, fun i m H2 hW => ?_⟩
    obtain ⟨em, sm, eD⟩ := hW
    have hA : SqT K H2 t (ns.map nv) := .inl (.inl (sm _ _ (s1 _ _ ht)))
    have hC : SqT K H2 b ((ns.drop 1).map nv) := .inl (.inl (sm _ _ hb))
    by_cases hi : i < ns.length - 1
    · have h1 : i < ns.length := by omega
      have h2 : i + 1 < ns.length := by omega
      have g1 : (ns.map nv)[i]? = some (nv ns[i]) := by
        rw [List.getElem?_map, List.getElem?_eq_getElem h1]
        rfl
      have g2 : ((ns.drop 1).map nv)[i]? = some (nv ns[i + 1]) := by
        rw [List.getElem?_map, List.getElem?_drop, Nat.add_comm 1 i, List.getElem?_eq_getElem h2]
        rfl
      have lt : ns[i] < ns[i + 1] := List.pairwise_iff_getElem.mp hasc i (i + 1) h1 h2 (Nat.lt_succ_self i)
      refine .inr ⟨⟨_, _, _, _, hA, hC, g1, g2⟩, fun H' => Same H1 H' ∧ H' D = some (.lst ((List.replicate (i + 1) true).map V.bl)), fun H' hN => ⟨m - 1, by omega, by omega, hN.1, hN.2⟩, fun x H' hy => ?_⟩
      obtain ⟨T, x1, x2, rfl, nT, rfl, f1, f2⟩ := hy
      have ex1 : x1 = nv ns[i] := Option.some.inj ((f1 _ hA).symm.trans g1)
      have ex2 : x2 = nv ns[i + 1] := Option.some.inj ((f2 _ hC).symm.trans g2)
      subst ex1 ex2
      have nTD : D ≠ T := ne_of_none eD nT
      refine ⟨T, [_, _], rfl, .inl (.inl upd_same), rfl, _, [_], rfl, _, [], rfl, rfl, rfl, ?_⟩
      refine ⟨_, rfl, _, rfl, _, _, rfl, rfl, _, (upd_ne nTD).trans eD, ?_, ?_, ?_⟩
      · rw [List.length_map, List.length_replicate]
        exact small1000 (by omega)
      · exact Same.put (sm.trans (same_upd nT)) hD
      · rw [upd_same, List.replicate_succ', List.map_append]
        exact congrArg (fun c => some (HO.lst (List.map V.bl (List.replicate i true) ++ [V.bl c]))) (decide_eq_true (show (ns[i] : Int) < (ns[i + 1] : Int) by omega))
    · refine .inl ⟨⟨_, _, hA, hC, .inr ?_⟩, ?_⟩
      · rw [List.length_map, List.length_drop]
        omega
      · refine ⟨D, List.replicate i true, rfl, .inl (.inl eD), ?_⟩
        exact q_bl (k _ (s1.trans sm)) (by simp)
/-! ### are_below -/
def spAre : Sp := fun vs H Q _ => ∃ (t : Addr) (ns : List Nat) (m : Nat), vs = [.ref t, nv m] ∧ H t = some (.tup (ns.map nv)) ∧ ns.length ≤ 1000 ∧ ns.Pairwise (· < ·) ∧ (∀ x ∈ ns, x < m) ∧ m ≤ 100000 ∧ ∀ H', Same H H' → Q (.bl true) H'
theorem scAre : FnScope ["value", "limit", "one"] ["value", "limit"] (defScope sAreBelow) := ⟨rfl, rfl, rfl, by decide +kernel, rfl, by decide +kernel, by decide +kernel⟩
theorem ok_are {f : Addr} {fd : FuncData} (F : Fun K "are_below" "are_below" sAreBelow f fd) (B : Bi mg) (cB : C8.Cal P w K mg base 2 "is_below" spBelow []) (cA : C8.Cal P w K mg base 1 "is_ascending" spAsc []) : FnOk P w K mg base CX0 3 f fd ["value", "limit"] spAre := by
  refine F.ok scAre (fun vs H Q E h => ?_) (fun cdv A outer s H vs Q E hr h => ?_)
  · obtain ⟨t, ns, m, rfl, _⟩ := h
    rfl
  · obtain ⟨t, ns, m, rfl, ht, hlen, hasc, hlt, hm, k⟩ := h
    refine ⟨_, pss_one (ps_ret (pe_and (pe_callB call_isi (by rfl) B.isi (by decide +kernel) (pa_cons (pv 0) (pa_cons (pe_bltn (v := .ty "tuple") (by rfl) B.tuple (by decide +kernel) rfl) pa_nil)))
      (pe_and (pe_callB (cr_all rfl) (by rfl) B.all (by decide +kernel) (pa_cons
        (pe_lc (own := [("one", 2)]) (g := gName 2) rfl scAre.nd (pi_tup (pv 0)) (blkOk_by (N := ["value", "limit", "one"]) (sc := defScope sAreBelow) (by decide +kernel))
          (fun _ _ _ _ _ => pg_name (i := 2) scAre.nd rfl (Or.inl rfl)) (fun _ _ _ _ _ => pts_nil) (fun _ _ _ _ _ => C8.pe_c cB hr (by decide) (by rfl) (pa_cons (pv 2) (pa_cons (pv 1) pa_nil)))) pa_nil))
      (pe_one (C8.pe_c cA hr (by decide) (by rfl) (pa_cons (pv 0) pa_nil)))))), ?_⟩
    refine ⟨_, rfl, .ref t, .ty "tuple", _, _, true, rfl, .ty _, .base (.tup ht), kit_ty (by decide +kernel), true, rfl, iteT ?_⟩
    refine ⟨_, rfl, t, rfl, ⟨_, SqT.of ht⟩, fun D hD => ?_⟩
    refine lc_tup (K := K) (a := t) (xs := ns.map nv) (fun i H1 => Same H H1 ∧ H1 D = some (.lst ((List.replicate i true).map V.bl))) ⟨same_upd hD, upd_same⟩ (fun i H1 _ h => h.1.sqt (SqT.of ht)) ?_ ?_
    · rintro i x H1 hx ⟨s1, eD⟩
      obtain ⟨n, hn, rfl⟩ := get_nv hx
      have hlt' := hlt n (List.mem_of_getElem? hn)
      have hil := (List.getElem?_eq_some_iff.mp hn).1
      refine ⟨rfl, _, rfl, _, rfl, n, m, rfl, hlt', hm, _, eD, ?_, Same.put s1 hD, ?_⟩
      · rw [List.length_map, List.length_replicate]
        exact small1000 (by omega)
      · rw [upd_same, List.replicate_succ', List.map_append]
        rfl
    · rintro H1 ⟨s1, eD⟩
      refine ⟨D, List.replicate (ns.map nv).length true, rfl, .inl (.inl eD), true, ?_, iteT ⟨_, rfl, t, ns, rfl, s1 _ _ ht, hlen, hasc, fun H2 s2 => k H2 (s1.trans s2)⟩⟩
      exact congrArg V.bl (by simp)
/-! ### greatest_divisor -/
def spDiv : Sp := fun vs H Q _ => ∃ a b : Nat, vs = [nv a, nv b] ∧ Q (nv (Nat.gcd a b)) H
theorem scDiv : FnScope ["one", "other"] ["one", "other"] (defScope sDivisor) := ⟨rfl, rfl, rfl, by decide +kernel, rfl, by decide +kernel, by decide +kernel⟩
theorem ok_div {f : Addr} {fd : FuncData} (F : Fun K "greatest_divisor" "greatest_divisor" sDivisor f fd) : FnOk P w K mg base CX0 1 f fd ["one", "other"] spDiv := by
  refine F.ok scDiv (fun vs H Q E h => ?_) (fun cdv A outer s H vs Q E hr h => ?_)
  · obtain ⟨a, b, rfl, _⟩ := h
    rfl
  · obtain ⟨a, b, rfl, k⟩ := h
    refine ⟨_, pss_cons (ps_while PassesOwn.never (pt_cmpR op_ne (pv 1) pe_int (nomark _))
      (pss_one (ps_par (i := 0) (j := 1) rfl scDiv.nd rfl rfl (by decide) rfl rfl (pa_cons (pv 1) (pa_cons (pe_op op_mod (pv 0) (pv 1)) pa_nil)) (by rfl)))) (pss_one (ps_ret (pv 0))), ?_⟩
    refine ⟨fun m σ H1 => H1 = H ∧ ∃ c d : Nat, σ = [some (nv c), some (nv d)] ∧ m = d ∧ Nat.gcd c d = Nat.gcd a b, ⟨b, rfl, a, b, rfl, rfl, rfl⟩, ?_⟩
    rintro m σ H1 ⟨rfl, c, d, rfl, rfl, eg⟩
    refine ⟨_, rfl, rfl, _, rfl, ?_⟩
    by_cases hd : m = 0
    · subst hd
      rw [decide_eq_true (show nv 0 = V.int 0 from rfl)]
      refine iteF ⟨_, rfl, ?_⟩
      rw [Nat.gcd_zero_right] at eg
      subst eg
      exact k
    · rw [decide_eq_false (show ¬ nv m = V.int 0 from fun z => hd (by have := V.int.inj z; omega))]
      refine iteT ⟨fun σ' H' => H' = H1 ∧ σ' = [some (nv m), some (nv (c % m))], ?_, ?_⟩
      · rintro σ' H' ⟨rfl, rfl⟩
        refine ⟨c % m, Nat.mod_lt _ (by omega), rfl, m, c % m, rfl, rfl, ?_⟩
        rw [← eg, Nat.gcd_comm m, ← Nat.gcd_rec, Nat.gcd_comm]
      · refine ⟨_, rfl, _, rfl, _, rfl, _, _, rfl, rfl, by omega, _, _, rfl, rfl, ?_⟩
        exact congrArg (fun z => [some (nv m), some z]) (nv_mod c m)
/-! ### begins_of -/
def spBegins : Sp := fun vs H Q _ => ∃ (f p : Nat) (t : Addr) (ns : List Nat), vs = [nv f, nv p, .ref t] ∧ H t = some (.tup (ns.map nv)) ∧ ns.length ≤ 1000 ∧ 0 < p ∧ ∀ H' b, Same H H' → Q (.ref b) H'
theorem scBegins : FnScope ["first", "period", "rests", "rest"] ["first", "period", "rests"] (defScope sBegins) := ⟨rfl, rfl, rfl, by decide +kernel, rfl, by decide +kernel, by decide +kernel⟩
theorem ok_begins {f : Addr} {fd : FuncData} (F : Fun K "begins_of" "begins_of" sBegins f fd) (B : Bi mg) : FnOk P w K mg base CX0 1 f fd ["first", "period", "rests"] spBegins := by
  refine F.ok scBegins (fun vs H Q E h => ?_) (fun cdv A outer s H vs Q E hr h => ?_)
  · obtain ⟨f, p, t, ns, rfl, _⟩ := h
    rfl
  · obtain ⟨f, p, t, ns, rfl, ht, hlen, hp, k⟩ := h
    refine ⟨_, pss_one (ps_ret (pe_callTy call_tuple_of (by rfl) B.tuple (by decide +kernel) (pa_cons (pe_callB cr_sortedI (by rfl) B.sorted (by decide +kernel) (pa_cons
      (pe_lc (own := [("rest", 3)]) (g := gName 3) rfl scBegins.nd (pi_tup (pv 2)) (blkOk_by (N := ["first", "period", "rests", "rest"]) (sc := defScope sBegins) (by decide +kernel))
        (fun _ _ _ _ _ => pg_name (i := 3) scBegins.nd rfl (Or.inl rfl)) (fun _ _ _ _ _ => pts_nil) (fun _ _ _ _ _ => pe_op op_add (pv 0) (pe_op op_mod (pe_op op_sub (pv 3) (pv 0)) (pv 1)))) pa_nil)) pa_nil))), ?_⟩
    refine ⟨_, rfl, t, rfl, ⟨_, SqT.of ht⟩, fun D hD => ?_⟩
    refine lc_tup (K := K) (a := t) (xs := ns.map nv) (fun i H1 => Same H H1 ∧ ∃ zs : List Int, zs.length = i ∧ H1 D = some (.lst (zs.map V.int))) ⟨same_upd hD, [], rfl, upd_same⟩ (fun i H1 _ h => h.1.sqt (SqT.of ht)) ?_ ?_
    · rintro i x H1 hx ⟨s1, zs, hz, eD⟩
      obtain ⟨n, hn, rfl⟩ := get_nv hx
      have hil := (List.getElem?_eq_some_iff.mp hn).1
      refine ⟨rfl, _, rfl, _, rfl, _, rfl, _, _, rfl, rfl, _, rfl, _, _, rfl, rfl, by omega, _, _, rfl, rfl, _, eD, ?_, Same.put s1 hD, zs ++ [(f : Int) + ((n : Int) - f) % p], ?_, ?_⟩
      · rw [List.length_map]
        exact small1000 (by omega)
      · rw [List.length_append, hz]
        rfl
      · rw [upd_same, List.map_append]
        rfl
    · rintro H1 ⟨s1, zs, hz, eD⟩
      refine ⟨D, zs, rfl, .inl (.inl eD), fun ns' p1 _ _ np => ?_⟩
      refine ⟨p1, ns'.map V.int, rfl, .inl ⟨.inl (.inl upd_same), fun l nl => ?_⟩⟩
      exact k _ _ ((s1.up np).up nl)
end
end K03


-- text K03B
set_option Elab.async false
set_option linter.all false
set_option maxRecDepth 100000
set_option maxHeartbeats 4000000
/-! has_period, least_period, least_first. -/
namespace K03
open PySem PySem.Spec PyProof.Rows L2
theorem seen_put {kvs : List (Key × V)} {ns : List Nat} {i n : Nat} {v : V} (h : ∀ m : Nat, (valV kvs (Sum.inl (m : Int))).isSome = (ns.take i).contains m) (hn : ns[i]? = some n) (m : Nat) :
    (valV (putK kvs (Sum.inl (n : Int)) v) (Sum.inl (m : Int))).isSome = (ns.take (i + 1)).contains m := by
  rw [valV_put, List.take_add_one, hn]
  by_cases e : m = n
  · subst e
    rw [if_pos rfl]
    simp
  · rw [if_neg (fun z => e (by have := Sum.inl.inj z; omega)), h]
    apply Bool.eq_iff_iff.mpr
    simp [e]
/-- {n: True for n in t} -/
theorem dc_nats {K : PySem.W.Frag} {t D : Addr} {ns : List Nat} {σ : L2.St} (j : Nat) {H : Hp} {Qd : Hp → Prop} (hj : j < σ.length) (ht : H t = some (.tup (ns.map nv))) (hD : H D = none) (hl : ns.length ≤ 1000)
    (hd : ∀ (H' : Hp) (kvs : List (Key × V)), Same H H' → H' D = some (.dK kvs) → (∀ m : Nat, (valV kvs (Sum.inl (m : Int))).isSome = ns.contains m) → Qd H') :
    ∃ W : Nat → Nat → Hp → Prop, (∃ m, W 0 m (upd H D (.dK []))) ∧ ∀ i m H, W i m H →
      ((Itt K t).stop i H ∧ Qd H) ∨ ((Itt K t).go i H ∧ ∃ Nx : Hp → Prop, (∀ H', Nx H' → ∃ m', m' < m ∧ W (i + 1) m' H') ∧ ∀ x H', (Itt K t).yld i H x H' → gName j x (wipe σ [j]) H' fun σ2 H2 => wipe σ2 [j] = wipe σ [j] ∧ tYes σ2 H2 fun b H3 =>
        if b = true then tVar j σ2 H3 fun y H4 => tC (.bl true) σ2 H4 fun z H5 => ∃ kvs k, y = kV k ∧ H5 D = some (.dK kvs) ∧ kvs.length < sizeLine ∧ Nx (upd H5 D (.dK (putK kvs k z))) else Nx H3) := by
  refine dc_tup (K := K) (a := t) (xs := ns.map nv) (fun i H1 => Same H H1 ∧ ∃ kvs : List (Key × V), H1 D = some (.dK kvs) ∧ kvs.length ≤ i ∧ ∀ m : Nat, (valV kvs (Sum.inl (m : Int))).isSome = (ns.take i).contains m)
    ⟨same_upd hD, [], upd_same, Nat.le_refl _, fun m => rfl⟩ (fun i H1 _ h => L2.Same.sqt h.1 (SqT.of ht)) ?_ ?_
  · rintro i x H1 hx ⟨s1, kvs, eD, hk, hs⟩
    obtain ⟨n, hn, rfl⟩ := get_nv hx
    have hil := (List.getElem?_eq_some_iff.mp hn).1
    have hw : (wipe σ [j]).length = σ.length := wipe_length σ [j]
    refine ⟨?_, nv n, List.getElem?_set_self (by rw [hw]; exact hj), kvs, Sum.inl (n : Int), rfl, eD, small1000 (by omega), L2.Same.put s1 hD, _, upd_same, ?_, seen_put hs hn⟩
    · show ((σ.set j none).set j (some (nv n))).set j none = σ.set j none
      rw [List.set_set, List.set_set]
    · have := length_putK kvs (Sum.inl (n : Int) : Key) (V.bl true)
      omega
  · rintro H1 ⟨s1, kvs, eD, hk, hs⟩
    refine hd H1 kvs s1 eD fun m => ?_
    rw [hs, List.length_map, List.take_length]
section
variable {P : Program} {w : World} {K : PySem.W.Frag} {mg : Str → Option Value} {base : Heap}
/-! ### has_period -/
def spHasP : Sp := fun vs H Q _ => ∃ (t : Addr) (ns : List Nat) (p d : Nat), vs = [.ref t, nv p, nv d] ∧ H t = some (.tup (ns.map nv)) ∧ ns.length ≤ 1000 ∧ 0 < p ∧ p ≤ 1000 ∧ ∀ H', Same H H' → Q (.bl (hasP ns p d)) H'
theorem scHasP : FnScope ["rests", "period", "less", "known", "rest"] ["rests", "period", "less"] (defScope sHasPeriod) := ⟨rfl, rfl, rfl, by decide +kernel, rfl, by decide +kernel, by decide +kernel⟩
theorem ok_hasP {f : Addr} {fd : FuncData} (F : Fun K "has_period" "has_period" sHasPeriod f fd) (B : Bi mg) : FnOk P w K mg base CX0 1 f fd ["rests", "period", "less"] spHasP := by
  refine F.ok scHasP (fun vs H Q E h => ?_) (fun cdv A outer s H vs Q E hr h => ?_)
  · obtain ⟨t, ns, p, d, rfl, _⟩ := h
    rfl
  · obtain ⟨t, ns, p, d, rfl, ht, hlen, hp, hp2, k⟩ := h
    have hu := hu_of hr
    refine ⟨_, pss_cons (ps_set (i := 3) scHasP.nd rfl (Or.inr rfl)
        (pe_dc (own := [("rest", 4)]) (g := gName 4) rfl scHasP.nd (pi_tup (pv 0)) (blkOk_by (N := ["rests", "period", "less", "known", "rest"]) (sc := defScope sHasPeriod) (by decide +kernel))
          (fun _ _ _ _ _ => pg_name (i := 4) scHasP.nd rfl (Or.inl rfl)) (fun _ _ _ _ _ => pts_nil) (fun _ _ _ _ _ => pv 4) (fun _ _ _ _ _ => pe_bl)))
      (pss_one (ps_ret (pe_callB (cr_all rfl) (by rfl) B.all (by decide +kernel) (pa_cons
        (pe_lc (own := [("rest", 4)]) (g := gName 4) rfl scHasP.nd (pi_range1 (by rfl) B.range (pa_cons (pv 1) pa_nil)) (blkOk_by (N := ["rests", "period", "less", "known", "rest"]) (sc := defScope sHasPeriod) (by decide +kernel))
          (fun _ _ _ _ _ => pg_name (i := 4) scHasP.nd rfl (Or.inl rfl)) (fun _ _ _ _ _ => pts_nil)
          (fun _ _ _ _ _ => pe_cmpR op_eq (pe_cmp (pc_din hu (pv 4) (pv 3))) (pe_cmp (pc_din hu (pe_op op_mod (pe_op op_add (pv 4) (pv 2)) (pv 1)) (pv 3))) (nomark _))) pa_nil)))), ?_⟩
    refine ⟨_, rfl, t, rfl, ⟨_, SqT.of ht⟩, fun d1 hd1 => dc_nats 4 (by show 4 < 5; decide) ht hd1 hlen fun H1 kvs s1 eD hk => ?_⟩
    refine ⟨_, rfl, _, rfl, by omega, by omega, fun D hD => ?_⟩
    have nD : d1 ≠ D := ne_of_none eD hD
    refine lc_range (lo := 0) (n := p) (fun i H2 => Same H1 H2 ∧ H2 D = some (.lst (((List.range i).map fun r => ns.contains r == ns.contains ((r + d) % p)).map V.bl))) ⟨same_upd hD, upd_same⟩ ?_ ?_
    · rintro i H2 hi ⟨s2, eL⟩
      rw [show V.int (0 + (i : Int)) = nv i by rw [Int.zero_add]]
      have eD2 := s2 _ _ eD
      refine ⟨rfl, _, rfl, _, rfl, d1, _, rfl, DGet.k (k := Sum.inl (i : Int)) eD2, ?_⟩
      refine ⟨_, rfl, _, rfl, _, _, rfl, rfl, _, rfl, _, _, rfl, rfl, by omega, _, rfl, d1, _, rfl, DGet.k (k := Sum.inl (((i : Int) + (d : Int)) % (p : Int))) eD2, rfl, _, eL, ?_, L2.Same.put s2 hD, ?_⟩
      · rw [List.length_map, List.length_map, List.length_range]
        exact small1000 (by omega)
      · rw [upd_same, List.range_succ, List.map_append, List.map_append]
        refine congrArg (fun c => some (HO.lst (_ ++ [c]))) ?_
        rw [dec_bl, hk, show (((i : Int) + (d : Int)) % (p : Int)) = (((i + d) % p : Nat) : Int) by rw [Int.natCast_emod, Int.natCast_add], hk]
    · rintro H2 ⟨s2, eL⟩
      refine ⟨D, _, rfl, .inl (.inl eL), ?_⟩
      refine q_bl (k H2 (s1.trans s2)) ?_
      unfold hasP
      rw [List.all_map]
      rfl
/-! ### least_period -/
def spLeast : Sp := fun vs H Q _ => ∃ (t : Addr) (ns : List Nat) (p : Nat), vs = [.ref t, nv p] ∧ H t = some (.tup (ns.map nv)) ∧ ns.length ≤ 1000 ∧ 0 < p ∧ p ≤ 900 ∧
  ∀ (H' : Hp) (d : Nat), Same H H' → 0 < d → d ∣ p → hasP ns p d = true → (∀ e, 0 < e → e ∣ p → hasP ns p e = true → d ≤ e) → Q (nv d) H'
theorem scLeast : FnScope ["rests", "period", "less"] ["rests", "period"] (defScope sLeastPeriod) := ⟨rfl, rfl, rfl, by decide +kernel, rfl, by decide +kernel, by decide +kernel⟩
def goodP (ns : List Nat) (p d : Nat) : Bool := decide (p % d = 0) && hasP ns p d
theorem ok_least {f : Addr} {fd : FuncData} (F : Fun K "least_period" "least_period" sLeastPeriod f fd) (B : Bi mg) (cH : C8.Cal P w K mg base 1 "has_period" spHasP []) : FnOk P w K mg base CX0 2 f fd ["rests", "period"] spLeast := by
  refine F.ok scLeast (fun vs H Q E h => ?_) (fun cdv A outer s H vs Q E hr h => ?_)
  · obtain ⟨t, ns, p, rfl, _⟩ := h
    rfl
  · obtain ⟨t, ns, p, rfl, ht, hlen, hp, hp2, k⟩ := h
    refine ⟨_, pss_one (ps_ret (pe_callB (cr_min rfl) (by rfl) B.min (by decide +kernel) (pa_cons
      (pe_lc (own := [("less", 2)]) (g := gName 2) rfl scLeast.nd (pi_range2 (by rfl) B.range (pa_cons pe_int (pa_cons (pe_op op_add (pv 1) pe_int) pa_nil))) (blkOk_by (N := ["rests", "period", "less"]) (sc := defScope sLeastPeriod) (by decide +kernel))
        (fun _ _ _ _ _ => pg_name (i := 2) scLeast.nd rfl (Or.inl rfl))
        (fun _ _ _ _ _ => pts_one (PW.pt (pw_and (pt_cmpR op_eq (pe_op op_mod (pv 1) (pv 2)) pe_int (nomark _)) (pw_and1 (pt_val (C8.pe_c cH hr (by decide) (by rfl) (pa_cons (pv 0) (pa_cons (pv 1) (pa_cons (pv 2) pa_nil)))))))))
        (fun _ _ _ _ _ => pv 2)) pa_nil))), ?_⟩
    refine ⟨_, rfl, _, _, rfl, rfl, 1, _, rfl, ⟨by decide, by decide, by omega, by omega⟩, fun D hD => ?_⟩
    have hnn : ((p : Int) + 1 - 1).toNat = p := by omega
    refine lc_range (lo := 1) (n := ((p : Int) + 1 - 1).toNat) (fun i H2 => Same H H2 ∧ H2 D = some (.lst ((((List.range i).map (· + 1)).filter (goodP ns p)).map nv))) ⟨same_upd hD, upd_same⟩ ?_ ?_
    · rintro i H2 hi ⟨s2, eL⟩
      have hip : i < p := by omega
      rw [show V.int (1 + (i : Int)) = nv (i + 1) by rw [Int.add_comm]; rfl]
      have step : ((List.range (i + 1)).map (· + 1)).filter (goodP ns p) = ((List.range i).map (· + 1)).filter (goodP ns p) ++ (if goodP ns p (i + 1) = true then [i + 1] else []) := by
        rw [List.range_succ, List.map_append, List.filter_append]
        congr 1
        show List.filter (goodP ns p) [i + 1] = _
        cases hg : goodP ns p (i + 1) with
        | true => rw [List.filter_cons_of_pos hg]; rfl
        | false => rw [List.filter_cons_of_neg (by rw [hg]; exact Bool.false_ne_true)]; rfl
      have hll : (((List.range i).map (· + 1)).filter (goodP ns p)).length ≤ i := by
        refine Nat.le_trans (List.length_filter_le _ _) ?_
        rw [List.length_map, List.length_range]
        exact Nat.le_refl _
      refine ⟨rfl, _, rfl, _, rfl, _, _, rfl, rfl, by omega, rfl, _, rfl, ?_⟩
      refine ite2 (fun hc => ?_) (fun hc => ?_)
      · have hd : p % (i + 1) = 0 := nv_inj ((nv_mod p (i + 1)).symm.trans (of_decide_eq_true hc))
        refine ⟨_, rfl, _, rfl, _, rfl, t, ns, p, i + 1, rfl, s2 _ _ ht, hlen, hp, by omega, fun H3 s3 => ⟨_, rfl, ?_⟩⟩
        cases hb : hasP ns p (i + 1) with
        | true =>
          have hg : goodP ns p (i + 1) = true := by unfold goodP; rw [hb, decide_eq_true hd]; rfl
          refine iteT ⟨_, rfl, _, s3 _ _ eL, ?_, L2.Same.put (s2.trans s3) hD, ?_⟩
          · rw [List.length_map]
            exact small1000 (by omega)
          · rw [upd_same, step, hg, if_pos rfl, List.map_append]
            rfl
        | false =>
          have hg : goodP ns p (i + 1) = false := by unfold goodP; rw [hb, Bool.and_false]
          refine iteF ⟨s2.trans s3, ?_⟩
          rw [step, hg, if_neg Bool.false_ne_true, List.append_nil]
          exact s3 _ _ eL
      · have hd : ¬ p % (i + 1) = 0 := fun z => hc (decide_eq_true ((nv_mod p (i + 1)).trans (congrArg nv z)))
        have hg : goodP ns p (i + 1) = false := by unfold goodP; rw [decide_eq_false hd, Bool.false_and]
        refine iteF ⟨s2, ?_⟩
        rw [step, hg, if_neg Bool.false_ne_true, List.append_nil]
        exact eL
    · rw [hnn]
      rintro H2 ⟨s2, eL⟩
      have inz : ∀ d, d ∈ ((List.range p).map (· + 1)).filter (goodP ns p) ↔ 0 < d ∧ d ∣ p ∧ hasP ns p d = true := fun d => by
        rw [List.mem_filter, List.mem_map]
        constructor
        · rintro ⟨⟨a, ha, rfl⟩, hg⟩
          unfold goodP at hg
          rw [Bool.and_eq_true, decide_eq_true_eq] at hg
          exact ⟨Nat.succ_pos _, Nat.dvd_of_mod_eq_zero hg.1, hg.2⟩
        · rintro ⟨h0, h1, h2⟩
          have := Nat.le_of_dvd hp h1
          refine ⟨⟨d - 1, List.mem_range.mpr (by omega), by omega⟩, ?_⟩
          unfold goodP
          rw [Bool.and_eq_true, decide_eq_true_eq]
          exact ⟨Nat.mod_eq_zero_of_dvd h1, h2⟩
      have hself : hasP ns p p = true := hasP_iff.mpr fun r hr => by rw [Nat.add_mod_right, Nat.mod_eq_of_lt hr]
      refine ⟨D, (((List.range p).map (· + 1)).filter (goodP ns p)).map fun n : Nat => (n : Int), rfl, .inl (.inl (by rw [← nv_ints]; exact eL)), ?_, fun m hm hmin => ?_⟩
      · rw [List.length_map]
        exact List.length_pos_of_mem ((inz p).mpr ⟨hp, Nat.dvd_refl _, hself⟩)
      · obtain ⟨d, hd, rfl⟩ := List.mem_map.mp hm
        obtain ⟨h0, h1, h2⟩ := (inz d).mp hd
        refine k H2 d s2 h0 h1 h2 fun e e0 e1 e2 => ?_
        have := hmin (e : Int) (List.mem_map.mpr ⟨e, (inz e).mpr ⟨e0, e1, e2⟩, rfl⟩)
        omega
/-! ### least_first -/
def spFirst : Sp := fun vs H Q _ => ∃ (tf tr : Addr) (few rests : List Nat) (f p : Nat), vs = [.ref tf, nv f, nv p, .ref tr] ∧ H tf = some (.tup (few.map nv)) ∧ H tr = some (.tup (rests.map nv)) ∧ few.length ≤ 1000 ∧ rests.length ≤ 1000 ∧ 0 < p ∧ f ≤ 1000 ∧
  ∀ (H' : Hp) (g : Nat), Same H H' → g ≤ f → (∀ n, g ≤ n → n < f → few.contains n = rests.contains (n % p)) → (g = 0 ∨ few.contains (g - 1) ≠ rests.contains ((g - 1) % p)) → Q (nv g) H'
theorem scFirst : FnScope ["few", "first", "period", "rests", "known", "rounds", "at", "number", "rest"] ["few", "first", "period", "rests"] (defScope sLeastFirst) := ⟨rfl, rfl, rfl, by decide +kernel, rfl, by decide +kernel, by decide +kernel⟩
theorem ok_first {f : Addr} {fd : FuncData} (F : Fun K "least_first" "least_first" sLeastFirst f fd) (B : Bi mg) : FnOk P w K mg base CX0 1 f fd ["few", "first", "period", "rests"] spFirst := by
  refine F.ok scFirst (fun vs H Q E h => ?_) (fun cdv A outer s H vs Q E hr h => ?_)
  · obtain ⟨tf, tr, few, rests, f, p, rfl, _⟩ := h
    rfl
  · obtain ⟨tf, tr, few, rests, f, p, rfl, htf, htr, hl1, hl2, hp, hf, k⟩ := h
    have hu := hu_of hr
    refine ⟨_, pss_cons (ps_par (i := 4) (j := 5) rfl scFirst.nd rfl rfl (by decide) rfl rfl
        (pa_cons (pe_dc (own := [("number", 7)]) (g := gName 7) rfl scFirst.nd (pi_tup (pv 0)) (blkOk_by (N := ["few", "first", "period", "rests", "known", "rounds", "at", "number", "rest"]) (sc := defScope sLeastFirst) (by decide +kernel))
            (fun _ _ _ _ _ => pg_name (i := 7) scFirst.nd rfl (Or.inl rfl)) (fun _ _ _ _ _ => pts_nil) (fun _ _ _ _ _ => pv 7) (fun _ _ _ _ _ => pe_bl))
          (pa_cons (pe_dc (own := [("rest", 8)]) (g := gName 8) rfl scFirst.nd (pi_tup (pv 3)) (blkOk_by (N := ["few", "first", "period", "rests", "known", "rounds", "at", "number", "rest"]) (sc := defScope sLeastFirst) (by decide +kernel))
            (fun _ _ _ _ _ => pg_name (i := 8) scFirst.nd rfl (Or.inl rfl)) (fun _ _ _ _ _ => pts_nil) (fun _ _ _ _ _ => pv 8) (fun _ _ _ _ _ => pe_bl)) pa_nil)) (by rfl))
      (pss_cons (ps_for PassesOwn.never rfl (pi_range3 (by rfl) B.range (pa_cons (pe_op op_sub (pv 1) pe_int) (pa_cons (pe_un un_neg pe_int) (pa_cons (pe_un un_neg pe_int) pa_nil)))) (pg_name (i := 6) scFirst.nd rfl (Or.inl rfl))
        (pss_one (ps_if (pt_cmpR op_ne (pe_cmp (pc_din hu (pv 6) (pv 4))) (pe_cmp (pc_din hu (pe_op op_mod (pv 6) (pv 2)) (pv 5))) (nomark _)) (pss_one (ps_ret (pe_op op_add (pv 6) pe_int))) pss_nil)))
      (pss_one (ps_ret pe_int))), ?_⟩
    refine ⟨_, rfl, tf, rfl, ⟨_, SqT.of htf⟩, fun d1 hd1 => dc_nats 7 (by show 7 < 9; decide) htf hd1 hl1 fun H1 kvs1 s1 eD1 hk1 => ?_⟩
    refine ⟨_, rfl, tr, rfl, ⟨_, SqT.of (s1 _ _ htr)⟩, fun d2 hd2 => dc_nats 8 (by show 8 < 9; decide) (s1 _ _ htr) hd2 hl2 fun H2 kvs2 s2 eD2 hk2 => ?_⟩
    refine ⟨_, _, rfl, ?_⟩
    refine ⟨_, rfl, _, _, rfl, rfl, _, rfl, _, rfl, (f : Int) - 1, -1, -1, _, rfl, RgC.neg (by omega) (by omega) (by decide) (by decide), ?_⟩
    have hnn : ((f : Int) - 1 - -1).toNat = f := by omega
    have eD1' := s2 _ _ eD1
    refine for_rangeC (lo := (f : Int) - 1) (c := -1) (n := ((f : Int) - 1 - -1).toNat) (fun i σ H3 => ∃ v6, σ = [some (.ref tf), some (nv f), some (nv p), some (.ref tr), some (.ref d1), some (.ref d2), v6, none, none] ∧ H3 = H2 ∧ ∀ n, f - i ≤ n → n < f → few.contains n = rests.contains (n % p))
      ⟨none, rfl, rfl, fun n h1 h2 => by omega⟩ ?_ ?_
    · rintro i σ H3 hi ⟨v6, rfl, rfl, hs⟩
      have hif : i < f := by omega
      rw [show V.int ((f : Int) - 1 + (i : Nat) * -1) = nv (f - 1 - i) by congr 1; omega]
      refine ⟨_, rfl, _, rfl, d1, _, rfl, DGet.k (k := Sum.inl ((f - 1 - i : Nat) : Int)) eD1', ?_⟩
      refine ⟨_, rfl, _, rfl, _, _, rfl, rfl, by omega, _, rfl, d2, _, rfl, DGet.k (k := Sum.inl (((f - 1 - i : Nat) : Int) % (p : Int))) eD2, rfl, _, rfl, ?_⟩
      dsimp only
      rw [dec_bl, hk1, show ((((f - 1 - i : Nat) : Int)) % (p : Int)) = (((f - 1 - i) % p : Nat) : Int) by rw [Int.natCast_emod], hk2]
      by_cases hc : few.contains (f - 1 - i) = rests.contains ((f - 1 - i) % p)
      · rw [hc, beq_self_eq_true]
        refine iteF ⟨_, rfl, rfl, fun n h1 h2 => ?_⟩
        by_cases hn : n = f - 1 - i
        · rw [hn]
          exact hc
        · exact hs n (by omega) h2
      · rw [beq_eq_false_iff_ne.mpr hc]
        refine iteT ⟨_, rfl, _, _, rfl, rfl, ?_⟩
        refine q_v (k H3 (f - i) (s1.trans s2) (by omega) (fun n h1 h2 => hs n (by omega) h2) (.inr ?_)) ?_
        · rw [show f - i - 1 = f - 1 - i by omega]
          exact hc
        · show V.int (((f - 1 - i : Nat) : Int) + 1) = nv (f - i)
          congr 1
          omega
    · rintro σ H3 ⟨v6, rfl, rfl, hs⟩
      exact k H3 0 (s1.trans s2) (Nat.zero_le _) (fun n h1 h2 => hs n (by omega) h2) (.inl rfl)
end
end K03


-- text K03C
set_option Elab.async false
set_option linter.all false
set_option maxRecDepth 100000
set_option maxHeartbeats 4000000
/-! The object: LimAt; comprehensions that keep some numbers; __init__. -/
namespace K03
open PySem PySem.Spec PyProof.Rows L2
/-! ### a comprehension's turn -/
theorem turn_core {D : Addr} {σ : L2.St} {j n : Nat} {H H1 : Hp} {tt : TT} {te : TE} {p : Bool} {e : Nat} {zs : List V} {P : Hp → Prop} (hj : j < σ.length) (hD : H D = none) (hz : zs.length ≤ 1000) (s1 : Same H H1) (eD : H1 D = some (.lst zs))
    (htt : ∀ R : Bool → Hp → Prop, (∀ H2, Same H1 H2 → R p H2) → tt ((wipe σ [j]).set j (some (nv n))) H1 R)
    (hte : ∀ (H2 : Hp) (R : V → Hp → Prop), Same H1 H2 → (∀ H3, Same H2 H3 → R (nv e) H3) → te ((wipe σ [j]).set j (some (nv n))) H2 R)
    (ht : p = true → ∀ H', Same H H' → H' D = some (.lst (zs ++ [nv e])) → P H') (hf : p = false → ∀ H', Same H H' → H' D = some (.lst zs) → P H') :
    gName j (nv n) (wipe σ [j]) H1 fun σ2 H2 => wipe σ2 [j] = wipe σ [j] ∧ tt σ2 H2 fun b H3 => if b = true then te σ2 H3 fun y H4 => ∃ acc, H4 D = some (.lst acc) ∧ acc.length < sizeLine ∧ P (upd H4 D (.lst (acc ++ [y]))) else P H3 := by
  refine ⟨?_, htt _ fun H2 s2 => ?_⟩
  · show ((σ.set j none).set j (some (nv n))).set j none = σ.set j none
    rw [List.set_set, List.set_set]
  · cases hp : p with
    | true =>
      rw [if_pos rfl]
      exact hte H2 _ s2 fun H3 s3 => ⟨zs, s3 _ _ (s2 _ _ eD), small1000 hz, ht hp _ (L2.Same.put (s1.trans (s2.trans s3)) hD) upd_same⟩
    | false =>
      rw [if_neg Bool.false_ne_true]
      exact hf hp H2 (s1.trans s2) (s2 _ _ eD)
theorem take_filt {ns : List Nat} {i n : Nat} (p : Nat → Bool) (e : Nat → Nat) (hn : ns[i]? = some n) :
    (((ns.take (i + 1)).filter p).map e).map nv = (((ns.take i).filter p).map e).map nv ++ (if p n = true then [nv (e n)] else []) := by
  rw [List.take_add_one, hn]
  show (((ns.take i ++ [n]).filter p).map e).map nv = _
  rw [List.filter_append, List.map_append, List.map_append]
  congr 1
  cases h : p n with
  | true => rw [List.filter_cons_of_pos h]; rfl
  | false => rw [List.filter_cons_of_neg (by rw [h]; exact Bool.false_ne_true)]; rfl
theorem filt_len {ns : List Nat} (p : Nat → Bool) (e : Nat → Nat) (i : Nat) (hl : ns.length ≤ 1000) : ((((ns.take i).filter p).map e).map nv).length ≤ 1000 := by
  rw [List.length_map, List.length_map]
  refine Nat.le_trans (List.length_filter_le _ _) ?_
  rw [List.length_take]
  omega
/-- over a tuple of numbers -/
theorem lc_filtT {K : PySem.W.Frag} {t D : Addr} {ns : List Nat} {σ : L2.St} (j : Nat) {H : Hp} {Qd : Hp → Prop} {tt : TT} {te : TE} (p : Nat → Bool) (e : Nat → Nat) (hj : j < σ.length) (hst : H t = some (.tup (ns.map nv))) (hD : H D = none) (hl : ns.length ≤ 1000)
    (htt : ∀ (H1 : Hp) (n : Nat) (R : Bool → Hp → Prop), Same H H1 → (∀ H2, Same H1 H2 → R (p n) H2) → tt ((wipe σ [j]).set j (some (nv n))) H1 R)
    (hte : ∀ (H1 : Hp) (n : Nat) (R : V → Hp → Prop), Same H H1 → (∀ H2, Same H1 H2 → R (nv (e n)) H2) → te ((wipe σ [j]).set j (some (nv n))) H1 R)
    (hd : ∀ H', Same H H' → H' D = some (.lst (((ns.filter p).map e).map nv)) → Qd H') :
    ∃ W : Nat → Nat → Hp → Prop, (∃ m, W 0 m (upd H D (.lst []))) ∧ ∀ i m H, W i m H →
      ((Itt K t).stop i H ∧ Qd H) ∨ ((Itt K t).go i H ∧ ∃ Nx : Hp → Prop, (∀ H', Nx H' → ∃ m', m' < m ∧ W (i + 1) m' H') ∧ ∀ x H', (Itt K t).yld i H x H' → gName j x (wipe σ [j]) H' fun σ2 H2 => wipe σ2 [j] = wipe σ [j] ∧ tt σ2 H2 fun b H3 =>
        if b = true then te σ2 H3 fun y H4 => ∃ acc, H4 D = some (.lst acc) ∧ acc.length < sizeLine ∧ Nx (upd H4 D (.lst (acc ++ [y]))) else Nx H3) := by
  refine lc_tup (K := K) (a := t) (xs := ns.map nv) (fun i H1 => Same H H1 ∧ H1 D = some (.lst ((((ns.take i).filter p).map e).map nv))) ⟨same_upd hD, upd_same⟩ (fun i H1 _ h => L2.Same.sqt h.1 (SqT.of hst)) ?_ ?_
  · rintro i x H1 hx ⟨s1, eD⟩
    obtain ⟨n, hn, rfl⟩ := get_nv hx
    refine turn_core (p := p n) (e := e n) hj hD (filt_len p e i hl) s1 eD (htt H1 n · s1) (fun H2 R s2 => hte H2 n R (s1.trans s2)) (fun hp H' s' e' => ⟨s', ?_⟩) (fun hp H' s' e' => ⟨s', ?_⟩)
    · rw [e', take_filt p e hn, if_pos hp]
    · rw [e', take_filt p e hn, if_neg (by rw [hp]; exact Bool.false_ne_true), List.append_nil]
  · rintro H1 ⟨s1, eD⟩
    refine hd H1 s1 ?_
    rw [eD, List.length_map, List.take_length]
/-- over a list of numbers -/
theorem lc_filtL {K : PySem.W.Frag} {t D : Addr} {ns : List Nat} {σ : L2.St} (j : Nat) {H : Hp} {Qd : Hp → Prop} {tt : TT} {te : TE} (p : Nat → Bool) (e : Nat → Nat) (hj : j < σ.length) (hst : H t = some (.lst (ns.map nv))) (hD : H D = none) (hl : ns.length ≤ 1000)
    (htt : ∀ (H1 : Hp) (n : Nat) (R : Bool → Hp → Prop), Same H H1 → (∀ H2, Same H1 H2 → R (p n) H2) → tt ((wipe σ [j]).set j (some (nv n))) H1 R)
    (hte : ∀ (H1 : Hp) (n : Nat) (R : V → Hp → Prop), Same H H1 → (∀ H2, Same H1 H2 → R (nv (e n)) H2) → te ((wipe σ [j]).set j (some (nv n))) H1 R)
    (hd : ∀ H', Same H H' → H' D = some (.lst (((ns.filter p).map e).map nv)) → Qd H') :
    ∃ W : Nat → Nat → Hp → Prop, (∃ m, W 0 m (upd H D (.lst []))) ∧ ∀ i m H, W i m H →
      ((Itl K t).stop i H ∧ Qd H) ∨ ((Itl K t).go i H ∧ ∃ Nx : Hp → Prop, (∀ H', Nx H' → ∃ m', m' < m ∧ W (i + 1) m' H') ∧ ∀ x H', (Itl K t).yld i H x H' → gName j x (wipe σ [j]) H' fun σ2 H2 => wipe σ2 [j] = wipe σ [j] ∧ tt σ2 H2 fun b H3 =>
        if b = true then te σ2 H3 fun y H4 => ∃ acc, H4 D = some (.lst acc) ∧ acc.length < sizeLine ∧ Nx (upd H4 D (.lst (acc ++ [y]))) else Nx H3) := by
  refine lc_list (K := K) (a := t) (xs := ns.map nv) (fun i H1 => Same H H1 ∧ H1 D = some (.lst ((((ns.take i).filter p).map e).map nv))) ⟨same_upd hD, upd_same⟩ (fun i H1 _ h => Same.seq h.1 (SqL.of hst)) ?_ ?_
  · rintro i x H1 hx ⟨s1, eD⟩
    obtain ⟨n, hn, rfl⟩ := get_nv hx
    refine turn_core (p := p n) (e := e n) hj hD (filt_len p e i hl) s1 eD (htt H1 n · s1) (fun H2 R s2 => hte H2 n R (s1.trans s2)) (fun hp H' s' e' => ⟨s', ?_⟩) (fun hp H' s' e' => ⟨s', ?_⟩)
    · rw [e', take_filt p e hn, if_pos hp]
    · rw [e', take_filt p e hn, if_neg (by rw [hp]; exact Bool.false_ne_true), List.append_nil]
  · rintro H1 ⟨s1, eD⟩
    refine hd H1 s1 ?_
    rw [eD, List.length_map, List.take_length]
/-- over range(N) -/
theorem lc_filtR {D : Addr} {N : Nat} {σ : L2.St} (j : Nat) {H : Hp} {Qd : Hp → Prop} {tt : TT} {te : TE} (p : Nat → Bool) (e : Nat → Nat) (hj : j < σ.length) (hD : H D = none) (hl : N ≤ 1000)
    (htt : ∀ (H1 : Hp) (n : Nat) (R : Bool → Hp → Prop), n < N → Same H H1 → (∀ H2, Same H1 H2 → R (p n) H2) → tt ((wipe σ [j]).set j (some (nv n))) H1 R)
    (hte : ∀ (H1 : Hp) (n : Nat) (R : V → Hp → Prop), n < N → Same H H1 → (∀ H2, Same H1 H2 → R (nv (e n)) H2) → te ((wipe σ [j]).set j (some (nv n))) H1 R)
    (hd : ∀ H', Same H H' → H' D = some (.lst ((((List.range N).filter p).map e).map nv)) → Qd H') :
    ∃ W : Nat → Nat → Hp → Prop, (∃ m, W 0 m (upd H D (.lst []))) ∧ ∀ i m H, W i m H →
      ((Itr 0 N).stop i H ∧ Qd H) ∨ ((Itr 0 N).go i H ∧ ∃ Nx : Hp → Prop, (∀ H', Nx H' → ∃ m', m' < m ∧ W (i + 1) m' H') ∧ ∀ x H', (Itr 0 N).yld i H x H' → gName j x (wipe σ [j]) H' fun σ2 H2 => wipe σ2 [j] = wipe σ [j] ∧ tt σ2 H2 fun b H3 =>
        if b = true then te σ2 H3 fun y H4 => ∃ acc, H4 D = some (.lst acc) ∧ acc.length < sizeLine ∧ Nx (upd H4 D (.lst (acc ++ [y]))) else Nx H3) := by
  have hr : ∀ i, i < N → (List.range N)[i]? = some i := fun i hi => by rw [List.getElem?_range hi]
  have hlr : (List.range N).length ≤ 1000 := by rw [List.length_range]; exact hl
  refine lc_range (lo := 0) (n := N) (fun i H1 => Same H H1 ∧ H1 D = some (.lst (((((List.range N).take i).filter p).map e).map nv))) ⟨same_upd hD, by rw [List.take_zero]; exact upd_same⟩ ?_ ?_
  · rintro i H1 hi ⟨s1, eD⟩
    rw [show V.int (0 + (i : Int)) = nv i by rw [Int.zero_add]]
    refine turn_core (p := p i) (e := e i) hj hD (filt_len p e i hlr) s1 eD (htt H1 i · hi s1) (fun H2 R s2 => hte H2 i R hi (s1.trans s2)) (fun hp H' s' e' => ⟨s', ?_⟩) (fun hp H' s' e' => ⟨s', ?_⟩)
    · rw [e', take_filt p e (hr i hi), if_pos hp]
    · rw [e', take_filt p e (hr i hi), if_neg (by rw [hp]; exact Bool.false_ne_true), List.append_nil]
  · rintro H1 ⟨s1, eD⟩
    refine hd H1 s1 ?_
    rw [eD, List.take_of_length_le (by rw [List.length_range]; exact Nat.le_refl _)]

/-! ### the attributes -/
def fl1 (p : Nat) : List (Str × V) := putF "own_period" (nv p) []
def fl2 (p : Nat) (tr : Addr) : List (Str × V) := putF "own_rests" (.ref tr) (fl1 p)
def fl3 (p : Nat) (tr : Addr) (f : Nat) : List (Str × V) := putF "own_first" (nv f) (fl2 p tr)
def fl4 (p : Nat) (tr : Addr) (f : Nat) (tf : Addr) : List (Str × V) := putF "own_few" (.ref tf) (fl3 p tr f)
def flds (p : Nat) (tr : Addr) (f : Nat) (tf tb : Addr) : List (Str × V) := putF "own_begins" (.ref tb) (fl4 p tr f tf)
section
variable {p f : Nat} {tr tf tb : Addr}
theorem fl1_len : (fl1 p).length ≤ 1 := length_putF _ _ _
theorem fl2_len : (fl2 p tr).length ≤ 2 := Nat.le_trans (length_putF _ _ _) (Nat.succ_le_succ fl1_len)
theorem fl3_len : (fl3 p tr f).length ≤ 3 := Nat.le_trans (length_putF _ _ _) (Nat.succ_le_succ fl2_len)
theorem fl4_len : (fl4 p tr f tf).length ≤ 4 := Nat.le_trans (length_putF _ _ _) (Nat.succ_le_succ fl3_len)
theorem fl1_p : (fl1 p).lookup ("own_period" : Str) = some (nv p) := by unfold fl1; rw [lookup_putF, if_pos rfl]
theorem fl2_p : (fl2 p tr).lookup ("own_period" : Str) = some (nv p) := by unfold fl2; rw [lookup_putF, if_neg (by decide +kernel), fl1_p]
theorem fl2_r : (fl2 p tr).lookup ("own_rests" : Str) = some (.ref tr) := by unfold fl2; rw [lookup_putF, if_pos rfl]
theorem fl3_f : (fl3 p tr f).lookup ("own_first" : Str) = some (nv f) := by unfold fl3; rw [lookup_putF, if_pos rfl]
theorem fl4_p : (fl4 p tr f tf).lookup ("own_period" : Str) = some (nv p) := by unfold fl4 fl3; rw [lookup_putF, if_neg (by decide +kernel), lookup_putF, if_neg (by decide +kernel), fl2_p]
theorem fl4_r : (fl4 p tr f tf).lookup ("own_rests" : Str) = some (.ref tr) := by unfold fl4 fl3; rw [lookup_putF, if_neg (by decide +kernel), lookup_putF, if_neg (by decide +kernel), fl2_r]
theorem fl4_f : (fl4 p tr f tf).lookup ("own_first" : Str) = some (nv f) := by unfold fl4; rw [lookup_putF, if_neg (by decide +kernel), fl3_f]
theorem fl4_w : (fl4 p tr f tf).lookup ("own_few" : Str) = some (.ref tf) := by unfold fl4; rw [lookup_putF, if_pos rfl]
theorem fl_p : (flds p tr f tf tb).lookup ("own_period" : Str) = some (nv p) := by unfold flds; rw [lookup_putF, if_neg (by decide +kernel), fl4_p]
theorem fl_r : (flds p tr f tf tb).lookup ("own_rests" : Str) = some (.ref tr) := by unfold flds; rw [lookup_putF, if_neg (by decide +kernel), fl4_r]
theorem fl_f : (flds p tr f tf tb).lookup ("own_first" : Str) = some (nv f) := by unfold flds; rw [lookup_putF, if_neg (by decide +kernel), fl4_f]
theorem fl_w : (flds p tr f tf tb).lookup ("own_few" : Str) = some (.ref tf) := by unfold flds; rw [lookup_putF, if_neg (by decide +kernel), fl4_w]
theorem fl_no {m : Str} (h1 : ¬ m = "own_begins") (h2 : ¬ m = "own_few") (h3 : ¬ m = "own_first") (h4 : ¬ m = "own_rests") (h5 : ¬ m = "own_period") : (flds p tr f tf tb).lookup m = none := by
  unfold flds fl4 fl3 fl2 fl1
  rw [lookup_putF, if_neg h1, lookup_putF, if_neg h2, lookup_putF, if_neg h3, lookup_putF, if_neg h4, lookup_putF, if_neg h5]
  rfl
end
/-- a set of limits stands at x: its members are told by S -/
structure LimAt (C : Addr) (H : Hp) (x : Addr) (S : Nat → Bool) : Prop where
  ex : ∃ (dx tf tr tb : Addr) (few rests : List Nat) (f p : Nat), H x = some (.ins C dx (flds p tr f tf tb)) ∧ H tf = some (.tup (few.map nv)) ∧ H tr = some (.tup (rests.map nv)) ∧ Norm few f p rests ∧ f ≤ 9 ∧ p ∣ 60 ∧ ∀ n, mem few f p rests n = S n
theorem LimAt.same {C : Addr} {H H' : Hp} {x : Addr} {S : Nat → Bool} (h : LimAt C H x S) (s : Same H H') : LimAt C H' x S := by
  obtain ⟨dx, tf, tr, tb, few, rests, f, p, h1, h2, h3, h4⟩ := h.ex
  exact ⟨dx, tf, tr, tb, few, rests, f, p, s _ _ h1, s _ _ h2, s _ _ h3, h4⟩
theorem LimAt.congr {C : Addr} {H : Hp} {x : Addr} {S T : Nat → Bool} (h : LimAt C H x S) (e : ∀ n, S n = T n) : LimAt C H x T := by
  obtain ⟨dx, tf, tr, tb, few, rests, f, p, h1, h2, h3, h4, h5, h6, h7⟩ := h.ex
  exact ⟨dx, tf, tr, tb, few, rests, f, p, h1, h2, h3, h4, h5, h6, fun n => (h7 n).trans (e n)⟩
theorem LimAt.small {C : Addr} {H : Hp} {x : Addr} {S : Nat → Bool} (h : LimAt C H x S) : Small S := by
  obtain ⟨dx, tf, tr, tb, few, rests, f, p, h1, h2, h3, h4, h5, h6, h7⟩ := h.ex
  exact ⟨few, f, p, rests, h5, h6, funext fun n => (h7 n).symm⟩
/-- what the walk asks of the class -/
structure Cl (K : PySem.W.Frag) (C : Addr) : Prop where
  cl : Cls K C
  nP : NoAttr K C "own_period"
  nR : NoAttr K C "own_rests"
  nF : NoAttr K C "own_first"
  nW : NoAttr K C "own_few"
  nB : NoAttr K C "own_begins"
theorem asc_len : ∀ {l : List Nat} {a b : Nat}, l.Pairwise (· < ·) → (∀ x ∈ l, a ≤ x ∧ x < b) → l.length ≤ b - a
  | [], _, _, _, _ => Nat.zero_le _
  | x :: r, a, b, hp, h => by
    have h1 := h x List.mem_cons_self
    have h2 := List.pairwise_cons.mp hp
    have := asc_len (a := x + 1) (b := b) h2.2 fun y hy => ⟨h2.1 y hy, (h y (List.mem_cons_of_mem _ hy)).2⟩
    rw [List.length_cons]
    omega
theorem p60 {p : Nat} (h : p ∣ 60) : p ≤ 60 := Nat.le_of_dvd (by decide) h
theorem Valid.len {few rests : List Nat} {f p : Nat} (V : Valid few f p rests) : few.length ≤ f ∧ rests.length ≤ p := by
  have h1 := asc_len (a := 0) (b := f) V.fa fun x hx => ⟨Nat.zero_le _, V.fl x hx⟩
  have h2 := asc_len (a := 0) (b := p) V.ra fun x hx => ⟨Nat.zero_le _, V.rl x hx⟩
  omega
/-- all but x stays -/
def Off (x : Addr) (H H' : Hp) : Prop := ∀ b o, H b = some o → b ≠ x → H' b = some o
theorem Off.of {x : Addr} {H H' : Hp} (s : Same H H') : Off x H H' := fun b o e _ => s b o e
theorem Off.trans {x : Addr} {H H1 H2 : Hp} (a : Off x H H1) (b : Off x H1 H2) : Off x H H2 := fun c o e n => b c o (a c o e n) n
theorem Off.put {x : Addr} {H H1 : Hp} {o : HO} (a : Off x H H1) : Off x H (upd H1 x o) := fun c u e n => by rw [upd_ne n]; exact a c u e n

section
variable {P : Program} {w : World} {K : PySem.W.Frag} {mg : Str → Option Value} {base : Heap}
/-! ### __init__ -/
def spInit (C : Addr) : Sp := fun vs H Q _ => ∃ (x dx tf tr : Addr) (few rests : List Nat) (f p : Nat), vs = [.ref x, .ref tf, nv f, nv p, .ref tr] ∧ H x = some (.ins C dx []) ∧ H tf = some (.tup (few.map nv)) ∧ H tr = some (.tup (rests.map nv)) ∧ Valid few f p rests ∧ f ≤ 9 ∧ p ∣ 60 ∧
  ∀ H', Off x H H' → LimAt C H' x (mem few f p rests) → Q .non H'
theorem scInit : FnScope ["self", "few", "first", "period", "rests", "rest", "number"] ["self", "few", "first", "period", "rests"] (defScope sInit) := ⟨rfl, rfl, rfl, by decide +kernel, rfl, by decide +kernel, by decide +kernel⟩
theorem ok_init {f C : Addr} {fd : FuncData} (F : Fun K "__init__" "Limits.__init__" sInit f fd) (B : Bi mg) (T : Cl K C) (hM : ∃ u, mg "MAX_PERIOD" = some u ∧ RelV (nv 2000) u)
    (cB : C8.Cal P w K mg base 2 "is_below" spBelow []) (cA : C8.Cal P w K mg base 3 "are_below" spAre []) (cL : C8.Cal P w K mg base 2 "least_period" spLeast []) (cF : C8.Cal P w K mg base 1 "least_first" spFirst []) (cG : C8.Cal P w K mg base 1 "begins_of" spBegins []) :
    FnOk P w K mg base CX0 4 f fd ["self", "few", "first", "period", "rests"] (spInit C) := by
  refine F.ok scInit (fun vs H Q E h => ?_) (fun cdv A outer s H vs Q E hr h => ?_)
  · obtain ⟨x, dx, tf, tr, few, rests, f, p, rfl, _⟩ := h
    rfl
  · obtain ⟨x, dx, tf, tr, few, rests, f, p, rfl, hx, htf, htr, Vd, hf9, hp60, k⟩ := h
    obtain ⟨lf, lr⟩ := Vd.len
    have hp := p60 hp60
    have hp0 := Vd.pos
    refine ⟨_, pss_cons (ps_if (PW.pt (pw_or (pt_not (pt_val (C8.pe_c cB hr (by decide) (by rfl) (pa_cons (pv 2) (pa_cons (pe_op op_add (C8.pe_gc (by rfl) hM) pe_int) pa_nil)))))
          (pw_or (pt_not (pt_val (C8.pe_c cB hr (by decide) (by rfl) (pa_cons (pv 3) (pa_cons (pe_op op_add (C8.pe_gc (by rfl) hM) pe_int) pa_nil)))))
          (pw_or1 (pt_cmpR op_eq (pv 3) pe_int (nomark _)))))) pss_never pss_nil)
      (pss_cons (ps_if (PW.pt (pw_or (pt_not (pt_val (C8.pe_c cA hr (by decide) (by rfl) (pa_cons (pv 1) (pa_cons (pv 2) pa_nil)))))
          (pw_or1 (pt_not (pt_val (C8.pe_c cA hr (by decide) (by rfl) (pa_cons (pv 4) (pa_cons (pv 3) pa_nil)))))))) pss_never pss_nil)
      (pss_cons (ps_fld (pv 0) (C8.pe_c cL hr (by decide) (by rfl) (pa_cons (pv 4) (pa_cons (pv 3) pa_nil))) rfl)
      (pss_cons (ps_fld (pv 0) (pe_callTy call_tuple_of (by rfl) B.tuple (by decide +kernel) (pa_cons
        (pe_lc (own := [("rest", 5)]) (g := gName 5) (tt := tTest (tOp (rI0 fun i j => .bl (decide (i < j))) (tVar 5) (tFld K (tVar 0) "own_period"))) rfl scInit.nd (pi_tup (pv 4)) (blkOk_by (N := ["self", "few", "first", "period", "rests", "rest", "number"]) (sc := defScope sInit) (by decide +kernel))
          (fun _ _ _ _ _ => pg_name (i := 5) scInit.nd rfl (Or.inl rfl)) (fun _ _ _ _ _ => pts_one (pt_cmpR op_lt (pv 5) (pe_fld (pv 0) rfl) (nomark _))) (fun _ _ _ _ _ => pv 5)) pa_nil)) rfl)
      (pss_cons (ps_fld (pv 0) (C8.pe_c cF hr (by decide) (by rfl) (pa_cons (pv 1) (pa_cons (pv 2) (pa_cons (pe_fld (pv 0) rfl) (pa_cons (pe_fld (pv 0) rfl) pa_nil))))) rfl)
      (pss_cons (ps_fld (pv 0) (pe_callTy call_tuple_of (by rfl) B.tuple (by decide +kernel) (pa_cons
        (pe_lc (own := [("number", 6)]) (g := gName 6) (tt := tTest (tOp (rI0 fun i j => .bl (decide (i < j))) (tVar 6) (tFld K (tVar 0) "own_first"))) rfl scInit.nd (pi_tup (pv 1)) (blkOk_by (N := ["self", "few", "first", "period", "rests", "rest", "number"]) (sc := defScope sInit) (by decide +kernel))
          (fun _ _ _ _ _ => pg_name (i := 6) scInit.nd rfl (Or.inl rfl)) (fun _ _ _ _ _ => pts_one (pt_cmpR op_lt (pv 6) (pe_fld (pv 0) rfl) (nomark _))) (fun _ _ _ _ _ => pv 6)) pa_nil)) rfl)
      (pss_one (ps_fld (pv 0) (C8.pe_c cG hr (by decide) (by rfl) (pa_cons (pe_fld (pv 0) rfl) (pa_cons (pe_fld (pv 0) rfl) (pa_cons (pe_fld (pv 0) rfl) pa_nil)))) rfl))))))), ?_⟩
    -- the checks
    refine ⟨_, rfl, _, _, rfl, rfl, f, 2001, rfl, by omega, by decide, true, rfl, iteF ?_⟩
    refine ⟨_, rfl, _, _, rfl, rfl, p, 2001, rfl, by omega, by decide, true, rfl, iteF ?_⟩
    refine ⟨_, rfl, rfl, _, rfl, ite2 (fun hc => absurd (of_decide_eq_true hc) fun z => by have := V.int.inj z; omega) fun _ => ?_⟩
    refine ⟨_, rfl, _, rfl, tf, few, f, rfl, htf, by omega, Vd.fa, Vd.fl, by omega, fun H1 s1 => ⟨true, rfl, iteF ?_⟩⟩
    refine ⟨_, rfl, _, rfl, tr, rests, p, rfl, s1 _ _ htr, by omega, Vd.ra, Vd.rl, by omega, fun H2 s2 => ⟨true, rfl, iteF ?_⟩⟩
    have s02 := s1.trans s2
    -- self.own_period
    refine ⟨_, rfl, _, rfl, tr, rests, p, rfl, s02 _ _ htr, by omega, Vd.pos, by omega, fun H3 lp s3 l0 l1 l2 l3 => ?_⟩
    have s03 := s02.trans s3
    have ntr : tr ≠ x := ne_of htr hx (by intro z; cases z)
    have ntf : tf ≠ x := ne_of htf hx (by intro z; cases z)
    refine ⟨_, rfl, x, C, dx, [], rfl, s03 _ _ hx, T.cl, T.nP, by decide, ?_⟩
    generalize h4 : upd H3 x (.ins C dx (putF "own_period" (nv lp) [])) = H4
    have x4 : H4 x = some (.ins C dx (fl1 lp)) := by rw [← h4]; exact upd_same
    have o4 : Off x H H4 := by rw [← h4]; exact (Off.of s03).put
    -- self.own_rests
    refine ⟨_, rfl, tr, rfl, ⟨_, SqT.of (o4 _ _ htr ntr)⟩, fun D5 hD5 => ?_⟩
    refine lc_filtT 5 (fun n => decide (n < lp)) id (by show 5 < 7; decide) (o4 _ _ htr ntr) hD5 (by omega) (fun H5 n R s5 q => ?_) (fun H5 n R s5 q => ⟨_, rfl, q H5 (Same.refl _)⟩) (fun H5 s5 e5 => ?_)
    · refine ⟨_, rfl, _, rfl, x, C, dx, _, _, rfl, s5 _ _ x4, T.cl, T.nP, fl1_p, _, _, rfl, rfl, _, rfl, ?_⟩
      have e : decide ((n : Int) < (lp : Int)) = decide (n < lp) := by
        apply Bool.eq_iff_iff.mpr
        simp only [decide_eq_true_eq]
        omega
      rw [e]
      exact q H5 (Same.refl _)
    · rw [List.map_id] at e5
      refine ⟨D5, _, rfl, .inl ⟨SqL.of e5, fun l nl => ?_⟩⟩
      have nlx : x ≠ l := ne_of_none (s5 _ _ x4) nl
      refine ⟨_, rfl, x, C, dx, _, rfl, (upd_ne nlx).trans (s5 _ _ x4), T.cl, T.nR, Nat.lt_of_le_of_lt fl1_len (by decide), ?_⟩
      generalize h6 : upd (upd H5 l (.tup ((rests.filter fun n => decide (n < lp)).map nv))) x (.ins C dx (putF "own_rests" (.ref l) (fl1 lp))) = H6
      have x6 : H6 x = some (.ins C dx (fl2 lp l)) := by rw [← h6]; exact upd_same
      have o6 : Off x H H6 := by rw [← h6]; exact (o4.trans (Off.of (s5.up nl))).put
      have l6 : H6 l = some (.tup ((rests.filter fun n => decide (n < lp)).map nv)) := by rw [← h6, upd_ne nlx.symm, upd_same]
      have ll : (rests.filter fun n => decide (n < lp)).length ≤ 60 := Nat.le_trans (List.length_filter_le _ _) (by omega)
      -- self.own_first
      refine ⟨_, rfl, _, rfl, _, rfl, x, C, dx, _, _, rfl, x6, T.cl, T.nP, fl2_p, _, rfl, x, C, dx, _, _, rfl, x6, T.cl, T.nR, fl2_r, ?_⟩
      refine ⟨tf, l, few, _, f, lp, rfl, o6 _ _ htf ntf, l6, by omega, by omega, l0, by omega, fun H7 g s7 g0 g1 g2 => ?_⟩
      refine ⟨_, rfl, x, C, dx, _, rfl, s7 _ _ x6, T.cl, T.nF, Nat.lt_of_le_of_lt fl2_len (by decide), ?_⟩
      generalize h8 : upd H7 x (.ins C dx (putF "own_first" (nv g) (fl2 lp l))) = H8
      have x8 : H8 x = some (.ins C dx (fl3 lp l g)) := by rw [← h8]; exact upd_same
      have o8 : Off x H6 H8 := by rw [← h8]; exact (Off.of s7).put
      have o08 := o6.trans o8
      -- self.own_few
      refine ⟨_, rfl, tf, rfl, ⟨_, SqT.of (o08 _ _ htf ntf)⟩, fun D9 hD9 => ?_⟩
      refine lc_filtT 6 (fun n => decide (n < g)) id (by show 6 < 7; decide) (o08 _ _ htf ntf) hD9 (by omega) (fun H9 n R s9 q => ?_) (fun H9 n R s9 q => ⟨_, rfl, q H9 (Same.refl _)⟩) (fun H9 s9 e9 => ?_)
      · refine ⟨_, rfl, _, rfl, x, C, dx, _, _, rfl, s9 _ _ x8, T.cl, T.nF, fl3_f, _, _, rfl, rfl, _, rfl, ?_⟩
        have e : decide ((n : Int) < (g : Int)) = decide (n < g) := by
          apply Bool.eq_iff_iff.mpr
          simp only [decide_eq_true_eq]
          omega
        rw [e]
        exact q H9 (Same.refl _)
      · rw [List.map_id] at e9
        refine ⟨D9, _, rfl, .inl ⟨SqL.of e9, fun l2' nl2 => ?_⟩⟩
        have nl2x : x ≠ l2' := ne_of_none (s9 _ _ x8) nl2
        refine ⟨_, rfl, x, C, dx, _, rfl, (upd_ne nl2x).trans (s9 _ _ x8), T.cl, T.nW, Nat.lt_of_le_of_lt fl3_len (by decide), ?_⟩
        generalize h10 : upd (upd H9 l2' (.tup ((few.filter fun n => decide (n < g)).map nv))) x (.ins C dx (putF "own_few" (.ref l2') (fl3 lp l g))) = H10
        have x10 : H10 x = some (.ins C dx (fl4 lp l g l2')) := by rw [← h10]; exact upd_same
        have o10 : Off x H8 H10 := by rw [← h10]; exact (Off.of (s9.up nl2)).put
        have o610 := o8.trans o10
        have w10 : H10 l2' = some (.tup ((few.filter fun n => decide (n < g)).map nv)) := by rw [← h10, upd_ne nl2x.symm, upd_same]
        have l10 := o610 _ _ l6 nlx.symm
        -- self.own_begins
        refine ⟨_, rfl, x, C, dx, _, _, rfl, x10, T.cl, T.nF, fl4_f, _, rfl, x, C, dx, _, _, rfl, x10, T.cl, T.nP, fl4_p, _, rfl, x, C, dx, _, _, rfl, x10, T.cl, T.nR, fl4_r, ?_⟩
        refine ⟨g, lp, l, _, rfl, l10, by omega, l0, fun H11 tb s11 => ?_⟩
        refine ⟨_, rfl, x, C, dx, _, rfl, s11 _ _ x10, T.cl, T.nB, Nat.lt_of_le_of_lt fl4_len (by decide), ?_⟩
        generalize h12 : upd H11 x (.ins C dx (putF "own_begins" (.ref tb) (fl4 lp l g l2'))) = H12
        have x12 : H12 x = some (.ins C dx (flds lp l g l2' tb)) := by rw [← h12]; exact upd_same
        have o12 : Off x H10 H12 := by rw [← h12]; exact (Off.of s11).put
        obtain ⟨N, M⟩ := norm_of Vd l0 l1 l2 l3 g0 g1 g2
        exact k H12 (o6.trans (o610.trans o12)) ⟨dx, l2', l, tb, _, _, g, lp, x12, o12 _ _ w10 nl2x.symm, o12 _ _ l10 nlx.symm, N, by omega, Nat.dvd_trans l1 hp60, M⟩
end
end K03


-- text K03D
set_option Elab.async false
set_option linter.all false
set_option maxRecDepth 100000
set_option maxHeartbeats 4000000
/-! has_number, require_limits, joined. -/
namespace K03
open PySem PySem.Spec PyProof.Rows L2
/-- a new set of limits, made -/
theorem mk_lim {C : Addr} {H : Hp} {tf tr : Addr} {few rests : List Nat} {f p : Nat} {Q : VK} {E : XK} (htf : H tf = some (.tup (few.map nv))) (htr : H tr = some (.tup (rests.map nv))) (Vd : Valid few f p rests) (hf : f ≤ 9) (hp : p ∣ 60)
    (k : ∀ H' z, Same H H' → LimAt C H' z (mem few f p rests) → Q (.ref z) H') :
    ∀ x dx, H x = none → H dx = none → dx ≠ x → spInit C (.ref x :: ([.ref tf, nv f, nv p, .ref tr] ++ [])) (upd (upd H dx (.own x)) x (.ins C dx [])) (fun v H2 => v = .non ∧ Q (.ref x) H2) E := by
  intro x dx nx nd ne
  have s0 : Same H (upd (upd H dx (.own x)) x (.ins C dx [])) := fun b o e => by
    rw [upd_ne (ne_of_none e nx), upd_ne (ne_of_none e nd)]
    exact e
  exact ⟨x, dx, tf, tr, few, rests, f, p, rfl, upd_same, s0 _ _ htf, s0 _ _ htr, Vd, hf, hp, fun H' off lim => ⟨rfl, k H' x (Same.made nx nd off) lim⟩⟩
/-- what isinstance asks of the class -/
structure Ci (K : PySem.W.Frag) (C : Addr) : Prop where
  ha : PySem.W.findIn K (.ref C) "__class__" = some (some (.builtin "object.__class__"))
  hn : PySem.W.specialIn K (.builtin "object.__class__") "__get__" = some (some (.builtin "getset_descriptor.__get__"))
  htk : PySem.W.takesIn K (.builtin "object.__class__") = some true
  hm : PySem.W.mroIn K C (.type "object") = some true
theorem kit_self {K : PySem.W.Frag} {C : Addr} : PySem.W.kitOne K (.ref C) (.ref C) = some true := by
  unfold PySem.W.kitOne
  rw [if_pos (by simp)]
/-- a written tuple of pairs of truth values: what it wants -/
structure WantAt (K : PySem.W.Frag) (a : Addr) (W : Bool → Bool → Bool) : Prop where
  ex : ∃ ds : List PyData, (∀ H, Dp K H (.ref a) (.tuple ds)) ∧ SeqAt.shaped (.tuple ds) = true ∧ ∀ x y, (ds.any fun z => PyData.eqv z (.tuple [.bool x, .bool y])) = W x y
theorem pair_shaped (x y : Bool) : SeqAt.shaped (.tuple [.bool x, .bool y]) = true := by
  cases x <;> cases y <;> decide +kernel
theorem nats_of_perm {ns : List Int} {zs : List Nat} (h : ns.Perm (zs.map fun n : Nat => (n : Int))) (hs : ns.Pairwise (· ≤ ·)) : ∃ R : List Nat, ns = R.map (fun n : Nat => (n : Int)) ∧ R.Perm zs ∧ R.Pairwise (· ≤ ·) := by
  have e : ns = (ns.map Int.toNat).map fun n : Nat => (n : Int) := by
    rw [List.map_map]
    have : ∀ x ∈ ns, x = ((fun n : Nat => (n : Int)) ∘ Int.toNat) x := fun x hx => by
      obtain ⟨n, _, rfl⟩ := List.mem_map.mp (h.mem_iff.mp hx)
      rfl
    exact (List.map_id ns).symm.trans (List.map_congr_left this)
  refine ⟨ns.map Int.toNat, e, ?_, ?_⟩
  · have p := h.map Int.toNat
    rw [List.map_map] at p
    have : zs.map (Int.toNat ∘ fun n : Nat => (n : Int)) = zs := (List.map_congr_left fun _ _ => rfl).trans (List.map_id zs)
    rw [this] at p
    exact p
  · rw [List.pairwise_map]
    exact hs.imp fun {a b} hab => Int.toNat_le_toNat hab
section
variable {P : Program} {w : World} {K : PySem.W.Frag} {mg : Str → Option Value} {base : Heap}
/-! ### has_number -/
def spHas (C : Addr) : Sp := fun vs H Q _ => ∃ (x : Addr) (n : Nat) (S : Nat → Bool), vs = [.ref x, nv n] ∧ LimAt C H x S ∧ Q (.bl (S n)) H
theorem scHas : FnScope ["limits", "number"] ["limits", "number"] (defScope sHas) := ⟨rfl, rfl, rfl, by decide +kernel, rfl, by decide +kernel, by decide +kernel⟩
theorem ok_has {f C : Addr} {fd : FuncData} (F : Fun K "has_number" "has_number" sHas f fd) (T : Cl K C) : FnOk P w K mg base CX0 1 f fd ["limits", "number"] (spHas C) := by
  refine F.ok scHas (fun vs H Q E h => ?_) (fun cdv A outer s H vs Q E hr h => ?_)
  · obtain ⟨x, n, S, rfl, _⟩ := h
    rfl
  · obtain ⟨x, n, S, rfl, L, k⟩ := h
    obtain ⟨dx, tf, tr, tb, few, rests, f, p, h1, h2, h3, N, hf, hp, hm⟩ := L.ex
    have hp0 := N.pos
    refine ⟨_, pss_cons (ps_if (pt_cmpR op_lt (pv 1) (pe_fld (pv 0) rfl) (nomark _)) (pss_one (ps_ret (pe_cmpR op_in_seq (pv 1) (pe_fld (pv 0) rfl) (by rfl)))) pss_nil)
      (pss_one (ps_ret (pe_cmpR op_in_seq (pe_op op_mod (pv 1) (pe_fld (pv 0) rfl)) (pe_fld (pv 0) rfl) (by rfl)))), ?_⟩
    refine ⟨_, rfl, _, rfl, x, C, dx, _, _, rfl, h1, T.cl, T.nF, fl_f, _, _, rfl, rfl, _, rfl, ite2 (fun hc => ?_) (fun hc => ?_)⟩
    · have hlt : n < f := by
        have := of_decide_eq_true hc
        omega
      refine ⟨_, rfl, _, rfl, x, C, dx, _, _, rfl, h1, T.cl, T.nW, fl_w, tf, few.map nv, rfl, .inr (SqT.of h2), rfl, flat_nv _, ?_⟩
      refine q_bl k ?_
      rw [← hm n, mem_few hlt]
      exact inV_nv n few
    · have hge : f ≤ n := Nat.le_of_not_lt fun z => hc (decide_eq_true (by omega))
      refine ⟨_, rfl, _, rfl, x, C, dx, _, _, rfl, h1, T.cl, T.nP, fl_p, _, _, rfl, rfl, by omega, _, rfl, x, C, dx, _, _, rfl, h1, T.cl, T.nR, fl_r, tr, rests.map nv, rfl, .inr (SqT.of h3), rfl, flat_nv _, ?_⟩
      refine q_bl k ?_
      rw [← hm n, mem_tail hge]
      unfold tail
      show inV (V.int ((n : Int) % (p : Int))) (rests.map nv) = _
      rw [nv_mod]
      exact inV_nv (n % p) rests
/-! ### require_limits -/
def spReq (C : Addr) : Sp := fun vs H Q _ => ∃ (x : Addr) (S : Nat → Bool), vs = [.ref x] ∧ LimAt C H x S ∧ Q .non H
theorem scReq : FnScope ["value"] ["value"] (defScope sRequire) := ⟨rfl, rfl, rfl, by decide +kernel, rfl, by decide +kernel, by decide +kernel⟩
theorem ok_req {f C : Addr} {fd : FuncData} (F : Fun K "require_limits" "require_limits" sRequire f fd) (B : Bi mg) (T : Cl K C) (I : Ci K C) (mC : mg "Limits" = some (.ref C)) : FnOk P w K mg base CX0 1 f fd ["value"] (spReq C) := by
  refine F.ok scReq (fun vs H Q E h => ?_) (fun cdv A outer s H vs Q E hr h => ?_)
  · obtain ⟨x, S, rfl, _⟩ := h
    rfl
  · obtain ⟨x, S, rfl, L, k⟩ := h
    obtain ⟨dx, tf, tr, tb, few, rests, f, p, h1, _⟩ := L.ex
    refine ⟨_, pss_one (ps_if (pt_not (pt_val (pe_callB call_isi (by rfl) B.isi (by decide +kernel) (pa_cons (pv 0) (pa_cons (pe_glob (v := .ref C) (by rfl) mC rfl) pa_nil))))) pss_never pss_nil), ?_⟩
    exact ⟨_, rfl, .ref x, .ref C, _, _, true, rfl, .own C, .base (.ins h1 T.cl I.ha I.hn I.htk I.hm), kit_self, true, rfl, iteF k⟩
/-! ### joined -/
def spJoin (K : PySem.W.Frag) (C : Addr) : Sp := fun vs H Q _ => ∃ (x y a : Addr) (S T : Nat → Bool) (W : Bool → Bool → Bool), vs = [.ref x, .ref y, .ref a] ∧ LimAt C H x S ∧ LimAt C H y T ∧ WantAt K a W ∧
  ∀ H' z, Same H H' → LimAt C H' z (fun n => W (S n) (T n)) → Q (.ref z) H'
theorem scJoin : FnScope ["one", "other", "wanted", "period", "first", "numbers", "rests", "at", "number"] ["one", "other", "wanted"] (defScope sJoined) := ⟨rfl, rfl, rfl, by decide +kernel, rfl, by decide +kernel, by decide +kernel⟩
theorem ok_join {f C : Addr} {fd : FuncData} (F : Fun K "joined" "joined" sJoined f fd) (B : Bi mg) (T : Cl K C) (hM : ∃ u, mg "MAX_PERIOD" = some u ∧ RelV (nv 2000) u)
    (cR : C8.Cal P w K mg base 1 "require_limits" (spReq C) []) (cD : C8.Cal P w K mg base 1 "greatest_divisor" spDiv []) (cH : C8.Cal P w K mg base 1 "has_number" (spHas C) []) (cM : C8.Mak P w K mg base 4 "Limits" C (spInit C) []) :
    FnOk P w K mg base CX0 6 f fd ["one", "other", "wanted"] (spJoin K C) := by
  refine F.ok scJoin (fun vs H Q E h => ?_) (fun cdv A outer s H vs Q E hr h => ?_)
  · obtain ⟨x, y, a, S, U, W, rfl, _⟩ := h
    rfl
  · obtain ⟨x, y, a, S, U, W, rfl, L1, L2', HW, k⟩ := h
    have hu65 : (A.deeper (envOfC "joined" (defScope sJoined) s.heap.objs.size f cdv)).units + 65 < cLine := by
      have := hr.un
      omega
    obtain ⟨dx, tf, tr, tb, few, rests, f1, p1, hx, htf, htr, N, hf, hp, hm⟩ := L1.ex
    obtain ⟨dy, tf', tr', tb', few', rests', f2, p2, hy, htf', htr', N', hf', hp', hm'⟩ := L2'.ex
    obtain ⟨ds, hds, hsh, hany⟩ := HW.ex
    have hp0 := N.pos
    have hp0' := N'.pos
    have l60 := p60 hp
    have l60' := p60 hp'
    refine ⟨_, pss_cons (ps_expr (C8.pe_c cR hr (by decide) (by rfl) (pa_cons (pv 1) pa_nil)))
      (pss_cons (ps_set (i := 3) scJoin.nd rfl (Or.inr rfl) (pe_op op_fdiv (pe_op op_mul (pe_fld (pv 0) rfl) (pe_fld (pv 1) rfl)) (C8.pe_c cD hr (by decide) (by rfl) (pa_cons (pe_fld (pv 0) rfl) (pa_cons (pe_fld (pv 1) rfl) pa_nil)))))
      (pss_cons (ps_if (pt_cmpR op_gt (pv 3) (C8.pe_gc (by rfl) hM) (nomark _)) pss_never pss_nil)
      (pss_cons (ps_set (i := 4) scJoin.nd rfl (Or.inr rfl) (pe_callB (call_max2 rfl) (by rfl) B.max (by decide +kernel) (pa_cons (pe_fld (pv 0) rfl) (pa_cons (pe_fld (pv 1) rfl) pa_nil))))
      (pss_cons (ps_setLc (i := 5) (own := [("at", 7)]) (g := gName 7)
          (tt := tTest (tOp (rInT K) (tTup (tCons (tCall (spHas C) [] C8.E0 (tCons (tVar 0) (tCons (tVar 7) tNil))) (tCons (tCall (spHas C) [] C8.E0 (tCons (tVar 1) (tCons (tVar 7) tNil))) tNil))) (tVar 2)))
          rfl scJoin.nd rfl rfl (sw_true rfl rfl rfl (by decide +kernel)) (pi_range1 (by rfl) B.range (pa_cons (pe_op op_add (pv 4) (pv 3)) pa_nil)) (blkOk_by (N := ["one", "other", "wanted", "period", "first", "numbers", "rests", "at", "number"]) (sc := defScope sJoined) (by decide +kernel))
          (fun _ _ _ _ _ => pg_name (i := 7) scJoin.nd rfl (Or.inl rfl))
          (fun _ _ _ _ _ => pts_one (pt_cmpR (op_inT hu65) (pe_tup (pa_cons (C8.pe_c cH hr (by decide) (by rfl) (pa_cons (pv 0) (pa_cons (pv 7) pa_nil))) (pa_cons (C8.pe_c cH hr (by decide) (by rfl) (pa_cons (pv 1) (pa_cons (pv 7) pa_nil))) pa_nil))) (pv 2) (by rfl)))
          (fun _ _ _ _ _ => pv 7))
      (pss_cons (ps_set (i := 6) scJoin.nd rfl (Or.inl rfl) (pe_callB cr_sortedI (by rfl) B.sorted (by decide +kernel) (pa_cons
          (pe_lc (own := [("number", 8)]) (g := gName 8) rfl scJoin.nd (pi_list (pv 5)) (blkOk_by (N := ["one", "other", "wanted", "period", "first", "numbers", "rests", "at", "number"]) (sc := defScope sJoined) (by decide +kernel))
            (fun _ _ _ _ _ => pg_name (i := 8) scJoin.nd rfl (Or.inl rfl)) (fun _ _ _ _ _ => pts_one (pt_cmpR op_ge (pv 8) (pv 4) (nomark _))) (fun _ _ _ _ _ => pe_op op_mod (pv 8) (pv 3))) pa_nil)))
      (pss_one (ps_ret (C8.pe_mk cM hr (by decide) (by rfl) (pa_cons (pe_callTy call_tuple_of (by rfl) B.tuple (by decide +kernel) (pa_cons
          (pe_lc (own := [("number", 8)]) (g := gName 8) rfl scJoin.nd (pi_list (pv 5)) (blkOk_by (N := ["one", "other", "wanted", "period", "first", "numbers", "rests", "at", "number"]) (sc := defScope sJoined) (by decide +kernel))
            (fun _ _ _ _ _ => pg_name (i := 8) scJoin.nd rfl (Or.inl rfl)) (fun _ _ _ _ _ => pts_one (pt_cmpR op_lt (pv 8) (pv 4) (nomark _))) (fun _ _ _ _ _ => pv 8)) pa_nil))
        (pa_cons (pv 4) (pa_cons (pv 3) (pa_cons (pe_callTy call_tuple_of (by rfl) B.tuple (by decide +kernel) (pa_cons (pv 6) pa_nil)) pa_nil))))))))))))
      , ?_⟩
    -- require_limits
    refine ⟨_, rfl, y, U, rfl, L2', ?_⟩
    -- period
    refine ⟨_, rfl, x, C, dx, _, _, rfl, hx, T.cl, T.nP, fl_p, _, rfl, y, C, dy, _, _, rfl, hy, T.cl, T.nP, fl_p, _, _, rfl, rfl, .inl ⟨by omega, by omega⟩, ?_⟩
    refine ⟨_, rfl, x, C, dx, _, _, rfl, hx, T.cl, T.nP, fl_p, _, rfl, y, C, dy, _, _, rfl, hy, T.cl, T.nP, fl_p, p1, p2, rfl, _, _, rfl, rfl, ?_, ?_⟩
    · have g1 := Nat.gcd_pos_of_pos_left p2 hp0
      have g2 := Nat.gcd_le_left p2 hp0
      exact ⟨by omega, by omega⟩
    have eP : V.int ((p1 : Int) * (p2 : Int) / ((Nat.gcd p1 p2 : Nat) : Int)) = nv (Nat.lcm p1 p2) := by
      show V.int _ = V.int ((p1 * p2 / Nat.gcd p1 p2 : Nat) : Int)
      rw [Int.natCast_ediv, Int.natCast_mul]
    dsimp only
    rw [eP]
    have dP1 : p1 ∣ Nat.lcm p1 p2 := Nat.dvd_lcm_left p1 p2
    have dP2 : p2 ∣ Nat.lcm p1 p2 := Nat.dvd_lcm_right p1 p2
    have dP : Nat.lcm p1 p2 ∣ 60 := Nat.lcm_dvd hp hp'
    have P0 : 0 < Nat.lcm p1 p2 := Nat.lcm_pos hp0 hp0'
    generalize Nat.lcm p1 p2 = PP at dP1 dP2 dP P0
    have lP := p60 dP
    refine ⟨_, rfl, _, _, rfl, rfl, _, rfl, ite2 (fun hc => absurd (of_decide_eq_true hc) (by omega)) fun _ => ?_⟩
    -- first
    refine ⟨_, rfl, x, C, dx, _, _, rfl, hx, T.cl, T.nF, fl_f, _, rfl, y, C, dy, _, _, rfl, hy, T.cl, T.nF, fl_f, _, _, rfl, ?_⟩
    have eF : V.int (if (f2 : Int) > (f1 : Int) then (f2 : Int) else (f1 : Int)) = nv (max f1 f2) := congrArg V.int (by split <;> omega)
    dsimp only
    rw [eF]
    have hF1 : f1 ≤ max f1 f2 := Nat.le_max_left _ _
    have hF2 : f2 ≤ max f1 f2 := Nat.le_max_right _ _
    have hF9 : max f1 f2 ≤ 9 := Nat.max_le.mpr ⟨hf, hf'⟩
    generalize max f1 f2 = FF at hF1 hF2 hF9
    -- numbers
    refine ⟨_, rfl, _, rfl, _, _, rfl, rfl, ((FF + PP : Nat) : Int), congrArg (fun z => [z]) (nv_add FF PP), by omega, by omega, fun D5 hD5 => ?_⟩
    refine lc_filtR (N := FF + PP) 7 (fun n => W (S n) (U n)) id (by show 7 < 9; decide) hD5 (by omega) (fun H1 n R hn s1 q => ?_) (fun H1 n R hn s1 q => ⟨_, rfl, q H1 (Same.refl _)⟩) (fun H5 s5 e5 => ?_)
    · refine ⟨_, rfl, _, rfl, x, n, S, rfl, L1.same s1, _, rfl, _, rfl, y, n, U, rfl, L2'.same s1, small_len (by show 2 ≤ 1000; decide), fun t nt => ?_⟩
      refine ⟨_, rfl, .tuple [.bool (S n), .bool (U n)], ds, .tup (SqT.of upd_same) (.cons (.bl _) (.cons (.bl _) .nil)), hds _, pair_shaped _ _, hsh, _, rfl, ?_⟩
      rw [hany]
      exact q _ (same_upd nt)
    rw [List.map_id] at e5
    have len5 : ((List.range (FF + PP)).filter fun n => W (S n) (U n)).length ≤ 69 := by
      refine Nat.le_trans (List.length_filter_le _ _) ?_
      rw [List.length_range]
      omega
    -- rests
    refine ⟨_, rfl, D5, rfl, ⟨_, SqL.of e5⟩, fun D6 hD6 => ?_⟩
    refine lc_filtL 8 (fun n => decide (FF ≤ n)) (· % PP) (by show 8 < 9; decide) e5 hD6 (by omega) (fun H1 n R s1 q => ?_) (fun H1 n R s1 q => ?_) (fun H6 s6 e6 => ?_)
    · refine ⟨_, rfl, _, rfl, _, _, rfl, rfl, _, rfl, ?_⟩
      have e : decide ((FF : Int) ≤ (n : Int)) = decide (FF ≤ n) := by
        apply Bool.eq_iff_iff.mpr
        simp only [decide_eq_true_eq]
        omega
      rw [e]
      exact q H1 (Same.refl _)
    · refine ⟨_, rfl, _, rfl, _, _, rfl, rfl, by omega, ?_⟩
      have := q H1 (Same.refl _)
      rw [← nv_mod] at this
      exact this
    rw [nv_ints] at e6
    refine ⟨D6, _, rfl, SqL.of e6, fun ns q6 perm rise nq6 => ?_⟩
    obtain ⟨RR, rfl, permR, riseR⟩ := nats_of_perm perm rise
    have s06 : Same H (upd H6 q6 (.lst ((RR.map fun n : Nat => (n : Int)).map V.int))) := (s5.trans s6).up nq6
    have e56 : (upd H6 q6 (.lst ((RR.map fun n : Nat => (n : Int)).map V.int))) D5 = some (.lst (((List.range (FF + PP)).filter fun n => W (S n) (U n)).map nv)) := (same_upd nq6) _ _ (s6 _ _ e5)
    have e66 : (upd H6 q6 (.lst ((RR.map fun n : Nat => (n : Int)).map V.int))) q6 = some (.lst (RR.map nv)) := by rw [upd_same, ← nv_ints]
    generalize upd H6 q6 (.lst ((RR.map fun n : Nat => (n : Int)).map V.int)) = H7 at s06 e56 e66
    -- Limits(..)
    refine ⟨_, rfl, D5, rfl, ⟨_, SqL.of e56⟩, fun D8 hD8 => ?_⟩
    refine lc_filtL 8 (fun n => decide (n < FF)) id (by show 8 < 9; decide) e56 hD8 (by omega) (fun H1 n R s1 q => ?_) (fun H1 n R s1 q => ⟨_, rfl, q H1 (Same.refl _)⟩) (fun H8 s8 e8 => ?_)
    · refine ⟨_, rfl, _, rfl, _, _, rfl, rfl, _, rfl, ?_⟩
      have e : decide ((n : Int) < (FF : Int)) = decide (n < FF) := by
        apply Bool.eq_iff_iff.mpr
        simp only [decide_eq_true_eq]
        omega
      rw [e]
      exact q H1 (Same.refl _)
    rw [List.map_id] at e8
    refine ⟨D8, _, rfl, .inl ⟨SqL.of e8, fun l9 nl9 => ?_⟩⟩
    refine ⟨_, rfl, _, rfl, _, rfl, q6, _, rfl, .inl ⟨SqL.of ((same_upd nl9) _ _ (s8 _ _ e66)), fun l10 nl10 => ?_⟩⟩
    have hW : ∀ n m, FF ≤ n → FF ≤ m → n % PP = m % PP → W (S n) (U n) = W (S m) (U m) := fun n m h1 h2 e => by
      rw [← hm n, ← hm m, ← hm' n, ← hm' m, mem_round (Nat.le_trans hF1 h1) (Nat.le_trans hF1 h2) dP1 e, mem_round (Nat.le_trans hF2 h1) (Nat.le_trans hF2 h2) dP2 e]
    obtain ⟨Vd, M⟩ := join_of (F := FF) (P := PP) (W := fun n => W (S n) (U n)) P0 hW permR riseR
    refine mk_lim (tf := l9) (tr := l10) ((same_upd nl10) _ _ upd_same) upd_same Vd hF9 dP fun H' z s' lim => ?_
    exact k H' z (s06.trans (s8.trans ((same_upd nl9).trans ((same_upd nl10).trans s')))) (lim.congr M)
end
end K03


-- text K03E
set_option Elab.async false
set_option linter.all false
set_option maxRecDepth 100000
set_option maxHeartbeats 4000000
/-! The methods of the class. -/
namespace K03
open PySem PySem.Spec PyProof.Rows L2
/-- a method of the class at C that keeps a promise -/
structure Own (P : Program) (w : World) (K : PySem.W.Frag) (mg : Str → Option Value) (base : Heap) (k : Nat) (C : Addr) (m : Str) (sp : Sp) : Prop where
  ex : ∃ (g : Addr) (fd : FuncData) (ps : List Str), PySem.W.findIn K (.ref C) m = some (some (.ref g)) ∧ PySem.W.isFn K (.ref g) = true ∧ PySem.W.keepIn K (.ref g) = true ∧ FnOk P w K mg base CX0 k g fd ps sp ∧ Binds K fd ps []
section
variable {X : Cx} {k j : Nat} {C : Addr} {sp : Sp}
theorem opb {op : Operator} (o : Own X.prog X.w X.K X.mg X.base k C (PySem.dunder op.info.2) sp) (hc : PySem.W.selfFirst X.K C = true) (hr : Room j X.A) (hk : k ≤ j) : OpR X (binaryOp op) (rOwn2 C sp E0) := by
  obtain ⟨g, fd, ps, h1, h2, _, F, b⟩ := o.ex
  exact op_bin hc h1 h2 F b (hr.mono hk) pass0
theorem opu (o : Own X.prog X.w X.K X.mg X.base k C "__invert__" sp) (hr : Room j X.A) (hk : k ≤ j) : UnR X (unaryOp .Invert) (rOwn1 C sp E0) := by
  obtain ⟨g, fd, ps, h1, h2, _, F, b⟩ := o.ex
  exact un_own h1 h2 F b (hr.mono hk) pass0
theorem opin (o : Own X.prog X.w X.K X.mg X.base k C "__contains__" sp) (hr : Room j X.A) (hk : k ≤ j) : OpR X (compareOp .In) (rOwnIn C sp E0) := by
  obtain ⟨g, fd, ps, h1, h2, _, F, b⟩ := o.ex
  exact op_inOwn h1 h2 F b (hr.mono hk) pass0
theorem opbool (o : Own X.prog X.w X.K X.mg X.base k C "__bool__" sp) (hr : Room j X.A) (hk : k + 2 ≤ j) : CallR X (.type "bool") (rOwnBool C sp E0) := by
  obtain ⟨g, fd, ps, h1, h2, _, F, b⟩ := o.ex
  exact call_boolOwn h1 h2 F b (hr.mono hk) pass0
theorem opeq (o : Own X.prog X.w X.K X.mg X.base k C "__eq__" sp) (hr : Room j X.A) (hk : k ≤ j) : OpR X (compareOp .Eq) (rOwnEq C sp E0) := by
  obtain ⟨g, fd, ps, h1, h2, _, F, b⟩ := o.ex
  exact op_eqOwn h1 h2 F b (hr.mono hk) pass0
theorem opne (o : Own X.prog X.w X.K X.mg X.base k C "__eq__" sp) (hne : PySem.W.findIn X.K (.ref C) "__ne__" = some (some (.builtin "object.__ne__"))) (hob : PySem.W.subIn X.K (.ref C) (.type "object") = some true) (hr : Room j X.A) (hk : k + 1 ≤ j) : OpR X (compareOp .NotEq) (rOwnNe C sp E0) := by
  obtain ⟨g, fd, ps, h1, h2, _, F, b⟩ := o.ex
  exact op_neOwn hne hob h1 h2 F b (hr.mono hk) pass0
end
theorem Own.met {P : Program} {w : World} {K : PySem.W.Frag} {mg : Str → Option Value} {base : Heap} {k : Nat} {C : Addr} {m : Str} {sp : Sp} (o : Own P w K mg base k C m sp) (c : Cls K C) : C8.Met P w K mg base k C m sp [] := by
  obtain ⟨g, fd, ps, h1, h2, h3, F, b⟩ := o.ex
  exact ⟨g, fd, ps, [], c, ⟨h1, h2, h3⟩, F, b, .nil⟩

/-! ### tuples of numbers as data -/
def dN (ns : List Nat) : PyData := .tuple (ns.map fun n : Nat => .int (n : Int))
theorem dN_dp {K : PySem.W.Frag} {H : Hp} : ∀ ns : List Nat, DpAll K H (ns.map nv) (ns.map fun n : Nat => .int (n : Int))
  | [] => .nil
  | n :: r => .cons (.int _) (dN_dp r)
theorem dN_lay : ∀ ns : List Nat, PyData.canLayAll0 (ns.map fun n : Nat => .int (n : Int)) = true
  | [] => by simp [PyData.canLayAll0]
  | n :: r => by simp [PyData.canLayAll0, PyData.canLay0, dN_lay r]
theorem dN_depth : ∀ ns : List Nat, PyData.depthAll (ns.map fun n : Nat => .int (n : Int)) = 0
  | [] => by simp [PyData.depthAll]
  | n :: r => by simp [PyData.depthAll, PyData.depth, dN_depth r]
theorem dN_shaped (ns : List Nat) : SeqAt.shaped (dN ns) = true := by
  show ((dN ns).canLay0 && decide ((dN ns).depth ≤ 64)) = true
  rw [Bool.and_eq_true]
  constructor
  · unfold dN
    simp only [PyData.canLay0]
    exact dN_lay ns
  · refine decide_eq_true ?_
    unfold dN
    simp only [PyData.depth, dN_depth]
    decide
theorem dN_eqvAll : ∀ ns ms : List Nat, PyData.eqvAll (ns.map fun n : Nat => .int (n : Int)) (ms.map fun n : Nat => .int (n : Int)) = decide (ns = ms)
  | [], [] => by simp [PyData.eqvAll]
  | [], _ :: _ => by simp [PyData.eqvAll]
  | _ :: _, [] => by simp [PyData.eqvAll]
  | a :: r, b :: s => by
    have ih := dN_eqvAll r s
    rw [List.map_cons, List.map_cons]
    simp only [PyData.eqvAll, PyData.eqv, ih]
    apply Bool.eq_iff_iff.mpr
    simp only [Bool.and_eq_true, beq_iff_eq, decide_eq_true_eq, List.cons.injEq]
    constructor
    · rintro ⟨h1, h2⟩
      exact ⟨by omega, h2⟩
    · rintro ⟨h1, h2⟩
      exact ⟨by omega, h2⟩
theorem dN_eqv (ns ms : List Nat) : PyData.eqv (dN ns) (dN ms) = decide (ns = ms) := by
  unfold dN
  simp only [PyData.eqv]
  exact dN_eqvAll ns ms

section
variable {P : Program} {w : World} {K : PySem.W.Frag} {mg : Str → Option Value} {base : Heap}
/-! ### &, |, -, ^ -/
def spOp2 (C : Addr) (W : Bool → Bool → Bool) : Sp := fun vs H Q _ => ∃ (x y : Addr) (S T : Nat → Bool), vs = [.ref x, .ref y] ∧ LimAt C H x S ∧ LimAt C H y T ∧ ∀ H' z, Same H H' → LimAt C H' z (fun n => W (S n) (T n)) → Q (.ref z) H'
theorem scAnd : FnScope ["self", "other"] ["self", "other"] (defScope sAnd) := ⟨rfl, rfl, rfl, by decide +kernel, rfl, by decide +kernel, by decide +kernel⟩
theorem ok_and {f C a : Addr} {fd : FuncData} {W : Bool → Bool → Bool} (F : Fun K "__and__" "Limits.__and__" sAnd f fd) (cJ : C8.Cal P w K mg base 6 "joined" (spJoin K C) []) (mW : ∃ u, mg "BOTH" = some u ∧ RelV (.ref a) u) (hW : WantAt K a W) : FnOk P w K mg base CX0 7 f fd ["self", "other"] (spOp2 C W) := by
  refine F.ok scAnd (fun vs H Q E h => ?_) (fun cdv A outer s H vs Q E hr h => ?_)
  · obtain ⟨x, y, S, T, rfl, _⟩ := h
    rfl
  · obtain ⟨x, y, S, T, rfl, L1, L2', k⟩ := h
    refine ⟨_, pss_one (ps_ret (C8.pe_c cJ hr (by decide) (by rfl) (pa_cons (pv 0) (pa_cons (pv 1) (pa_cons (C8.pe_gc (by rfl) mW) pa_nil))))), ?_⟩
    exact ⟨_, rfl, _, rfl, x, y, a, S, T, W, rfl, L1, L2', hW, k⟩
theorem scOr : FnScope ["self", "other"] ["self", "other"] (defScope sOr) := ⟨rfl, rfl, rfl, by decide +kernel, rfl, by decide +kernel, by decide +kernel⟩
theorem ok_or {f C a : Addr} {fd : FuncData} {W : Bool → Bool → Bool} (F : Fun K "__or__" "Limits.__or__" sOr f fd) (cJ : C8.Cal P w K mg base 6 "joined" (spJoin K C) []) (mW : ∃ u, mg "ANY" = some u ∧ RelV (.ref a) u) (hW : WantAt K a W) : FnOk P w K mg base CX0 7 f fd ["self", "other"] (spOp2 C W) := by
  refine F.ok scOr (fun vs H Q E h => ?_) (fun cdv A outer s H vs Q E hr h => ?_)
  · obtain ⟨x, y, S, T, rfl, _⟩ := h
    rfl
  · obtain ⟨x, y, S, T, rfl, L1, L2', k⟩ := h
    refine ⟨_, pss_one (ps_ret (C8.pe_c cJ hr (by decide) (by rfl) (pa_cons (pv 0) (pa_cons (pv 1) (pa_cons (C8.pe_gc (by rfl) mW) pa_nil))))), ?_⟩
    exact ⟨_, rfl, _, rfl, x, y, a, S, T, W, rfl, L1, L2', hW, k⟩
theorem scSub : FnScope ["self", "other"] ["self", "other"] (defScope sSub) := ⟨rfl, rfl, rfl, by decide +kernel, rfl, by decide +kernel, by decide +kernel⟩
theorem ok_sub {f C a : Addr} {fd : FuncData} {W : Bool → Bool → Bool} (F : Fun K "__sub__" "Limits.__sub__" sSub f fd) (cJ : C8.Cal P w K mg base 6 "joined" (spJoin K C) []) (mW : ∃ u, mg "ONE_ALONE" = some u ∧ RelV (.ref a) u) (hW : WantAt K a W) : FnOk P w K mg base CX0 7 f fd ["self", "other"] (spOp2 C W) := by
  refine F.ok scSub (fun vs H Q E h => ?_) (fun cdv A outer s H vs Q E hr h => ?_)
  · obtain ⟨x, y, S, T, rfl, _⟩ := h
    rfl
  · obtain ⟨x, y, S, T, rfl, L1, L2', k⟩ := h
    refine ⟨_, pss_one (ps_ret (C8.pe_c cJ hr (by decide) (by rfl) (pa_cons (pv 0) (pa_cons (pv 1) (pa_cons (C8.pe_gc (by rfl) mW) pa_nil))))), ?_⟩
    exact ⟨_, rfl, _, rfl, x, y, a, S, T, W, rfl, L1, L2', hW, k⟩
theorem scXor : FnScope ["self", "other"] ["self", "other"] (defScope sXor) := ⟨rfl, rfl, rfl, by decide +kernel, rfl, by decide +kernel, by decide +kernel⟩
theorem ok_xor {f C a : Addr} {fd : FuncData} {W : Bool → Bool → Bool} (F : Fun K "__xor__" "Limits.__xor__" sXor f fd) (cJ : C8.Cal P w K mg base 6 "joined" (spJoin K C) []) (mW : ∃ u, mg "JUST_ONE" = some u ∧ RelV (.ref a) u) (hW : WantAt K a W) : FnOk P w K mg base CX0 7 f fd ["self", "other"] (spOp2 C W) := by
  refine F.ok scXor (fun vs H Q E h => ?_) (fun cdv A outer s H vs Q E hr h => ?_)
  · obtain ⟨x, y, S, T, rfl, _⟩ := h
    rfl
  · obtain ⟨x, y, S, T, rfl, L1, L2', k⟩ := h
    refine ⟨_, pss_one (ps_ret (C8.pe_c cJ hr (by decide) (by rfl) (pa_cons (pv 0) (pa_cons (pv 1) (pa_cons (C8.pe_gc (by rfl) mW) pa_nil))))), ?_⟩
    exact ⟨_, rfl, _, rfl, x, y, a, S, T, W, rfl, L1, L2', hW, k⟩
/-! ### bool -/
def spBool (C : Addr) : Sp := fun vs H Q _ => ∃ (x : Addr) (S : Nat → Bool), vs = [.ref x] ∧ LimAt C H x S ∧ ∀ b : Bool, (b = true ↔ ∃ n, S n = true) → Q (.bl b) H
theorem scBool : FnScope ["self"] ["self"] (defScope sBool) := ⟨rfl, rfl, rfl, by decide +kernel, rfl, by decide +kernel, by decide +kernel⟩
theorem ok_bool {f C : Addr} {fd : FuncData} (F : Fun K "__bool__" "Limits.__bool__" sBool f fd) (B : Bi mg) (T : Cl K C) : FnOk P w K mg base CX0 1 f fd ["self"] (spBool C) := by
  refine F.ok scBool (fun vs H Q E h => ?_) (fun cdv A outer s H vs Q E hr h => ?_)
  · obtain ⟨x, S, rfl, _⟩ := h
    rfl
  · obtain ⟨x, S, rfl, L, k⟩ := h
    obtain ⟨dx, tf, tr, tb, few, rests, f, p, h1, h2, h3, N, hf, hp, hm⟩ := L.ex
    refine ⟨_, pss_one (ps_ret (pe_cmpR op_gt (pe_op op_add (pe_callB call_len_seq (by rfl) B.len PySem.boot_len (pa_cons (pe_fld (pv 0) rfl) pa_nil)) (pe_callB call_len_seq (by rfl) B.len PySem.boot_len (pa_cons (pe_fld (pv 0) rfl) pa_nil))) pe_int (nomark _))), ?_⟩
    refine ⟨_, rfl, x, C, dx, _, _, rfl, h1, T.cl, T.nW, fl_w, tf, _, rfl, .inr (SqT.of h2), _, rfl, x, C, dx, _, _, rfl, h1, T.cl, T.nR, fl_r, tr, _, rfl, .inr (SqT.of h3), _, _, rfl, rfl, _, _, rfl, rfl, ?_⟩
    refine k _ ?_
    rw [decide_eq_true_eq, List.length_map, List.length_map]
    have e : (0 < few.length + rests.length) ↔ ∃ n, mem few f p rests n = true := some_of N.toValid
    constructor
    · intro h
      obtain ⟨n, hn⟩ := e.mp (by omega)
      exact ⟨n, (hm n).symm.trans hn⟩
    · rintro ⟨n, hn⟩
      have := e.mpr ⟨n, (hm n).trans hn⟩
      omega
/-! ### is_within -/
def spWithin (C : Addr) : Sp := fun vs H Q _ => ∃ (x y : Addr) (S T : Nat → Bool), vs = [.ref x, .ref y] ∧ LimAt C H x S ∧ LimAt C H y T ∧ ∀ (H' : Hp) (b : Bool), Same H H' → (b = true ↔ ∀ n, S n = true → T n = true) → Q (.bl b) H'
theorem scWithin : FnScope ["self", "other"] ["self", "other"] (defScope sWithin) := ⟨rfl, rfl, rfl, by decide +kernel, rfl, by decide +kernel, by decide +kernel⟩
theorem ok_within {f C a : Addr} {fd : FuncData} (F : Fun K "is_within" "Limits.is_within" sWithin f fd) (B : Bi mg) (cJ : C8.Cal P w K mg base 6 "joined" (spJoin K C) []) (oB : Own P w K mg base 1 C "__bool__" (spBool C)) (mW : ∃ u, mg "ONE_ALONE" = some u ∧ RelV (.ref a) u)
    (hW : WantAt K a fun s t => s && !t) : FnOk P w K mg base CX0 7 f fd ["self", "other"] (spWithin C) := by
  refine F.ok scWithin (fun vs H Q E h => ?_) (fun cdv A outer s H vs Q E hr h => ?_)
  · obtain ⟨x, y, S, T, rfl, _⟩ := h
    rfl
  · obtain ⟨x, y, S, T, rfl, L1, L2', k⟩ := h
    refine ⟨_, pss_one (ps_ret (pe_not (pe_callTy (opbool oB hr (by decide)) (by rfl) B.bool (by decide +kernel) (pa_cons (C8.pe_c cJ hr (by decide) (by rfl) (pa_cons (pv 0) (pa_cons (pv 1) (pa_cons (C8.pe_gc (by rfl) mW) pa_nil)))) pa_nil)))), ?_⟩
    refine ⟨_, rfl, _, rfl, x, y, a, S, T, _, rfl, L1, L2', hW, fun H' z s' L' => ?_⟩
    obtain ⟨dz, _, _, _, _, _, _, _, hz, _⟩ := L'.ex
    refine ⟨z, dz, _, rfl, hz, z, _, rfl, L', fun b hb => ⟨b, rfl, b, rfl, ?_⟩⟩
    refine k H' (!b) s' ?_
    cases b with
    | true =>
      obtain ⟨n, hn⟩ := hb.mp rfl
      simp only [Bool.and_eq_true, Bool.not_eq_true'] at hn
      constructor
      · intro h
        cases h
      · intro h
        rw [h n hn.1] at hn
        cases hn.2
    | false =>
      constructor
      · intro _ n hn
        cases ht : T n with
        | true => rfl
        | false =>
          have := hb.mpr ⟨n, by simp [hn, ht]⟩
          cases this
      · intro _
        rfl
/-! ### __invert__ -/
def spInv (C : Addr) : Sp := fun vs H Q _ => ∃ (x : Addr) (S : Nat → Bool), vs = [.ref x] ∧ LimAt C H x S ∧ ∀ H' z, Same H H' → LimAt C H' z (fun n => !S n) → Q (.ref z) H'
theorem scInv : FnScope ["self", "few", "rests", "number", "rest"] ["self"] (defScope sInvert) := ⟨rfl, rfl, rfl, by decide +kernel, rfl, by decide +kernel, by decide +kernel⟩
theorem ok_inv {f C : Addr} {fd : FuncData} (F : Fun K "__invert__" "Limits.__invert__" sInvert f fd) (B : Bi mg) (T : Cl K C) (cM : C8.Mak P w K mg base 4 "Limits" C (spInit C) []) : FnOk P w K mg base CX0 6 f fd ["self"] (spInv C) := by
  refine F.ok scInv (fun vs H Q E h => ?_) (fun cdv A outer s H vs Q E hr h => ?_)
  · obtain ⟨x, S, rfl, _⟩ := h
    rfl
  · obtain ⟨x, S, rfl, L, k⟩ := h
    obtain ⟨dx, tf, tr, tb, few, rests, f, p, h1, h2, h3, N, hf, hp, hm⟩ := L.ex
    have lp := p60 hp
    refine ⟨_, pss_cons (ps_set (i := 1) scInv.nd rfl (Or.inl rfl) (pe_callTy call_tuple_of (by rfl) B.tuple (by decide +kernel) (pa_cons
          (pe_lc (own := [("number", 3)]) (g := gName 3) (tt := tTest (tOp (rIn K true) (tVar 3) (tFld K (tVar 0) "own_few"))) rfl scInv.nd (pi_range1 (by rfl) B.range (pa_cons (pe_fld (pv 0) rfl) pa_nil)) (blkOk_by (N := ["self", "few", "rests", "number", "rest"]) (sc := defScope sInvert) (by decide +kernel))
            (fun _ _ _ _ _ => pg_name (i := 3) scInv.nd rfl (Or.inl rfl)) (fun _ _ _ _ _ => pts_one (pt_cmpR op_notIn_seq (pv 3) (pe_fld (pv 0) rfl) (by rfl))) (fun _ _ _ _ _ => pv 3)) pa_nil)))
      (pss_cons (ps_set (i := 2) scInv.nd rfl (Or.inl rfl) (pe_callTy call_tuple_of (by rfl) B.tuple (by decide +kernel) (pa_cons
          (pe_lc (own := [("rest", 4)]) (g := gName 4) (tt := tTest (tOp (rIn K true) (tVar 4) (tFld K (tVar 0) "own_rests"))) rfl scInv.nd (pi_range1 (by rfl) B.range (pa_cons (pe_fld (pv 0) rfl) pa_nil)) (blkOk_by (N := ["self", "few", "rests", "number", "rest"]) (sc := defScope sInvert) (by decide +kernel))
            (fun _ _ _ _ _ => pg_name (i := 4) scInv.nd rfl (Or.inl rfl)) (fun _ _ _ _ _ => pts_one (pt_cmpR op_notIn_seq (pv 4) (pe_fld (pv 0) rfl) (by rfl))) (fun _ _ _ _ _ => pv 4)) pa_nil)))
      (pss_one (ps_ret (C8.pe_mk cM hr (by decide) (by rfl) (pa_cons (pv 1) (pa_cons (pe_fld (pv 0) rfl) (pa_cons (pe_fld (pv 0) rfl) (pa_cons (pv 2) pa_nil)))))))), ?_⟩
    refine ⟨_, rfl, x, C, dx, _, _, rfl, h1, T.cl, T.nF, fl_f, _, rfl, by omega, by omega, fun D1 hD1 => ?_⟩
    refine lc_filtR (N := f) 3 (fun n => !few.contains n) id (by show 3 < 5; decide) hD1 (by omega) (fun H1 n R hn s1 q => ?_) (fun H1 n R hn s1 q => ⟨_, rfl, q H1 (Same.refl _)⟩) (fun H1 s1 e1 => ?_)
    · refine ⟨_, rfl, _, rfl, x, C, dx, _, _, rfl, s1 _ _ h1, T.cl, T.nW, fl_w, tf, _, rfl, .inr (SqT.of (s1 _ _ h2)), rfl, flat_nv _, _, rfl, ?_⟩
      show R (!inV (nv n) (few.map nv)) H1
      rw [inV_nv]
      exact q H1 (Same.refl _)
    rw [List.map_id] at e1
    refine ⟨D1, _, rfl, .inl ⟨SqL.of e1, fun l1 nl1 => ?_⟩⟩
    have s1' := s1.up (o := .tup (((List.range f).filter fun n => !few.contains n).map nv)) nl1
    have w1 : (upd H1 l1 (.tup (((List.range f).filter fun n => !few.contains n).map nv))) l1 = some (.tup (((List.range f).filter fun n => !few.contains n).map nv)) := upd_same
    generalize upd H1 l1 (.tup (((List.range f).filter fun n => !few.contains n).map nv)) = H2 at s1' w1
    refine ⟨_, rfl, x, C, dx, _, _, rfl, s1' _ _ h1, T.cl, T.nP, fl_p, _, rfl, by omega, by omega, fun D3 hD3 => ?_⟩
    refine lc_filtR (N := p) 4 (fun n => !rests.contains n) id (by show 4 < 5; decide) hD3 (by omega) (fun H3 n R hn s3 q => ?_) (fun H3 n R hn s3 q => ⟨_, rfl, q H3 (Same.refl _)⟩) (fun H3 s3 e3 => ?_)
    · refine ⟨_, rfl, _, rfl, x, C, dx, _, _, rfl, s3 _ _ (s1' _ _ h1), T.cl, T.nR, fl_r, tr, _, rfl, .inr (SqT.of (s3 _ _ (s1' _ _ h3))), rfl, flat_nv _, _, rfl, ?_⟩
      show R (!inV (nv n) (rests.map nv)) H3
      rw [inV_nv]
      exact q H3 (Same.refl _)
    rw [List.map_id] at e3
    refine ⟨D3, _, rfl, .inl ⟨SqL.of e3, fun l4 nl4 => ?_⟩⟩
    have s4 := (same_upd (o := .tup (((List.range p).filter fun n => !rests.contains n).map nv)) nl4)
    have x4 := s4 _ _ (s3 _ _ (s1' _ _ h1))
    obtain ⟨Vd, M⟩ := not_of N.toValid
    refine ⟨_, rfl, _, rfl, x, C, dx, _, _, rfl, x4, T.cl, T.nF, fl_f, _, rfl, x, C, dx, _, _, rfl, x4, T.cl, T.nP, fl_p, _, rfl, ?_⟩
    refine mk_lim (tf := l1) (tr := l4) (s4 _ _ (s3 _ _ w1)) upd_same Vd hf hp fun H' z s' lim => ?_
    exact k H' z (s1'.trans (s3.trans (s4.trans s'))) (lim.congr fun n => by rw [M n, hm n])
/-! ### __contains__ -/
def spCont (C : Addr) : Sp := fun vs H Q _ => ∃ (x : Addr) (n : Nat) (S : Nat → Bool), vs = [.ref x, nv n] ∧ LimAt C H x S ∧ n ≤ 100000 ∧ Q (.bl (S n)) H
theorem scCont : FnScope ["self", "value"] ["self", "value"] (defScope sContains) := ⟨rfl, rfl, rfl, by decide +kernel, rfl, by decide +kernel, by decide +kernel⟩
theorem ok_cont {f C : Addr} {fd : FuncData} (F : Fun K "__contains__" "Limits.__contains__" sContains f fd) (cI : C8.Cal P w K mg base 1 "is_integer" spInt []) (cH : C8.Cal P w K mg base 1 "has_number" (spHas C) []) : FnOk P w K mg base CX0 2 f fd ["self", "value"] (spCont C) := by
  refine F.ok scCont (fun vs H Q E h => ?_) (fun cdv A outer s H vs Q E hr h => ?_)
  · obtain ⟨x, n, S, rfl, _⟩ := h
    rfl
  · obtain ⟨x, n, S, rfl, L, hn, k⟩ := h
    refine ⟨_, pss_one (ps_ret (pe_and (C8.pe_c cI hr (by decide) (by rfl) (pa_cons (pv 1) pa_nil)) (pe_and (pe_cmpR op_ge (pv 1) pe_int (nomark _)) (pe_one (C8.pe_c cH hr (by decide) (by rfl) (pa_cons (pv 0) (pa_cons (pv 1) pa_nil))))))), ?_⟩
    refine ⟨_, rfl, n, rfl, hn, true, rfl, iteT ⟨_, rfl, _, _, rfl, rfl, true, congrArg V.bl (decide_eq_true (by omega)), iteT ⟨_, rfl, _, rfl, x, n, S, rfl, L, k⟩⟩⟩
/-! ### __eq__ -/
def spEqL (C : Addr) : Sp := fun vs H Q _ => ∃ (x y : Addr) (S T : Nat → Bool), vs = [.ref x, .ref y] ∧ LimAt C H x S ∧ LimAt C H y T ∧ ∀ b : Bool, (b = true ↔ ∀ n, S n = T n) → Q (.bl b) H
theorem scEq : FnScope ["self", "other"] ["self", "other"] (defScope sEq) := ⟨rfl, rfl, rfl, by decide +kernel, rfl, by decide +kernel, by decide +kernel⟩
theorem ok_eq {f C : Addr} {fd : FuncData} (F : Fun K "__eq__" "Limits.__eq__" sEq f fd) (B : Bi mg) (T : Cl K C) (I : Ci K C) (mC : mg "Limits" = some (.ref C)) : FnOk P w K mg base CX0 1 f fd ["self", "other"] (spEqL C) := by
  refine F.ok scEq (fun vs H Q E h => ?_) (fun cdv A outer s H vs Q E hr h => ?_)
  · obtain ⟨x, y, S, U, rfl, _⟩ := h
    rfl
  · obtain ⟨x, y, S, U, rfl, L1, L2', k⟩ := h
    obtain ⟨dx, tf, tr, tb, few, rests, f1, p1, hx, htf, htr, N, hf, hp, hm⟩ := L1.ex
    obtain ⟨dy, tf', tr', tb', few', rests', f2, p2, hy, htf', htr', N', hf', hp', hm'⟩ := L2'.ex
    have no : ∀ {c : Prop}, ¬ c → ((∀ n, S n = U n) → c) → Q (.bl false) H := fun hc h => k false ⟨fun z => Bool.noConfusion z, fun z => absurd (h z) hc⟩
    have un : (∀ n, S n = U n) → few = few' ∧ f1 = f2 ∧ p1 = p2 ∧ rests = rests' := fun e => uniq N N' fun n => by rw [hm, hm', e n]
    refine ⟨_, pss_one (ps_ret (pe_and (pe_callB call_isi (by rfl) B.isi (by decide +kernel) (pa_cons (pv 1) (pa_cons (pe_glob (v := .ref C) (by rfl) mC rfl) pa_nil)))
      (pe_and (pe_cmpR (op_eqD hr.units) (pe_fld (pv 0) rfl) (pe_fld (pv 1) rfl) (nomark _))
      (pe_and (pe_cmpR op_eq (pe_fld (pv 0) rfl) (pe_fld (pv 1) rfl) (nomark _))
      (pe_and (pe_cmpR op_eq (pe_fld (pv 0) rfl) (pe_fld (pv 1) rfl) (nomark _))
      (pe_one (pe_cmpR (op_eqD hr.units) (pe_fld (pv 0) rfl) (pe_fld (pv 1) rfl) (nomark _)))))))), ?_⟩
    refine ⟨_, rfl, .ref y, .ref C, _, _, true, rfl, .own C, .base (.ins hy T.cl I.ha I.hn I.htk I.hm), kit_self, true, rfl, iteT ?_⟩
    refine ⟨_, rfl, x, C, dx, _, _, rfl, hx, T.cl, T.nW, fl_w, _, rfl, y, C, dy, _, _, rfl, hy, T.cl, T.nW, fl_w, dN few, dN few', .tup (SqT.of htf) (dN_dp _), .tup (SqT.of htf') (dN_dp _), dN_shaped _, dN_shaped _, _, rfl, ?_⟩
    rw [dN_eqv]
    refine ite2 (fun e1 => ?_) (fun e1 => no (c := few = few') (fun z => e1 (decide_eq_true z)) fun z => (un z).1)
    have e1 := of_decide_eq_true e1
    refine ⟨_, rfl, x, C, dx, _, _, rfl, hx, T.cl, T.nF, fl_f, _, rfl, y, C, dy, _, _, rfl, hy, T.cl, T.nF, fl_f, rfl, _, rfl, ?_⟩
    refine ite2 (fun e2 => ?_) (fun e2 => no (c := f1 = f2) (fun z => e2 (decide_eq_true (by rw [z]))) fun z => (un z).2.1)
    have e2 := nv_inj (of_decide_eq_true e2)
    refine ⟨_, rfl, x, C, dx, _, _, rfl, hx, T.cl, T.nP, fl_p, _, rfl, y, C, dy, _, _, rfl, hy, T.cl, T.nP, fl_p, rfl, _, rfl, ?_⟩
    refine ite2 (fun e3 => ?_) (fun e3 => no (c := p1 = p2) (fun z => e3 (decide_eq_true (by rw [z]))) fun z => (un z).2.2.1)
    have e3 := nv_inj (of_decide_eq_true e3)
    refine ⟨_, rfl, x, C, dx, _, _, rfl, hx, T.cl, T.nR, fl_r, _, rfl, y, C, dy, _, _, rfl, hy, T.cl, T.nR, fl_r, dN rests, dN rests', .tup (SqT.of htr) (dN_dp _), .tup (SqT.of htr') (dN_dp _), dN_shaped _, dN_shaped _, ?_⟩
    rw [dN_eqv]
    refine k _ ?_
    rw [decide_eq_true_eq]
    constructor
    · intro e4 n
      rw [← hm, ← hm', e1, e2, e3, e4]
    · intro e
      exact (un e).2.2.2
/-! ### every, none -/
def spConst (C : Addr) (b : Bool) : Sp := fun vs H Q _ => vs = [.ref C] ∧ ∀ H' z, Same H H' → LimAt C H' z (fun _ => b) → Q (.ref z) H'
theorem scEvery : FnScope ["cls"] ["cls"] (defScope sEvery) := ⟨rfl, rfl, rfl, by decide +kernel, rfl, by decide +kernel, by decide +kernel⟩
theorem ok_every {f fI C : Addr} {fd fdI : FuncData} {ps : List Str} (F : Fun K "every" "Limits.every" sEvery f fd) (M : Mk K C fI) (FI : FnOk P w K mg base CX0 4 fI fdI ps (spInit C)) (bI : Binds K fdI ps []) : FnOk P w K mg base CX0 6 f fd ["cls"] (spConst C true) := by
  refine F.ok scEvery (fun vs H Q E h => ?_) (fun cdv A outer s H vs Q E hr h => ?_)
  · obtain ⟨rfl, _⟩ := h
    rfl
  · obtain ⟨rfl, k⟩ := h
    refine ⟨_, pss_one (ps_ret (pe_makeL (i := 0) M FI hr rfl (Or.inl rfl) bI pass0 (pa_cons (pe_tup pa_nil) (pa_cons pe_int (pa_cons pe_int (pa_cons (pe_tup (pa_cons pe_int pa_nil)) pa_nil)))))), ?_⟩
    refine ⟨rfl, Nat.zero_le _, fun l1 n1 => ⟨small_len (by show 1 ≤ 1000; decide), fun l2 n2 => ?_⟩⟩
    refine mk_lim (few := []) (rests := [0]) (f := 0) (p := 1) ((same_upd n2) _ _ upd_same) upd_same ⟨.nil, by simp, by simp, by simp, by decide⟩ (by decide) (by decide) fun H' z s' lim => ?_
    refine k H' z ((same_upd n1).trans ((same_upd n2).trans s')) (lim.congr fun n => ?_)
    rw [mem_tail (Nat.zero_le _)]
    unfold tail
    rw [Nat.mod_one]
    rfl
theorem scNone : FnScope ["cls"] ["cls"] (defScope sNone) := ⟨rfl, rfl, rfl, by decide +kernel, rfl, by decide +kernel, by decide +kernel⟩
theorem ok_none {f fI C : Addr} {fd fdI : FuncData} {ps : List Str} (F : Fun K "none" "Limits.none" sNone f fd) (M : Mk K C fI) (FI : FnOk P w K mg base CX0 4 fI fdI ps (spInit C)) (bI : Binds K fdI ps []) : FnOk P w K mg base CX0 6 f fd ["cls"] (spConst C false) := by
  refine F.ok scNone (fun vs H Q E h => ?_) (fun cdv A outer s H vs Q E hr h => ?_)
  · obtain ⟨rfl, _⟩ := h
    rfl
  · obtain ⟨rfl, k⟩ := h
    refine ⟨_, pss_one (ps_ret (pe_makeL (i := 0) M FI hr rfl (Or.inl rfl) bI pass0 (pa_cons (pe_tup pa_nil) (pa_cons pe_int (pa_cons pe_int (pa_cons (pe_tup pa_nil) pa_nil)))))), ?_⟩
    refine ⟨rfl, Nat.zero_le _, fun l1 n1 => ⟨Nat.zero_le _, fun l2 n2 => ?_⟩⟩
    refine mk_lim (few := []) (rests := []) (f := 0) (p := 1) ((same_upd n2) _ _ upd_same) upd_same ⟨.nil, by simp, .nil, by simp, by decide⟩ (by decide) (by decide) fun H' z s' lim => ?_
    refine k H' z ((same_upd n1).trans ((same_upd n2).trans s')) (lim.congr fun n => ?_)
    rw [mem_tail (Nat.zero_le _)]
    rfl
end
end K03


-- text K03F
set_option Elab.async false
set_option linter.all false
set_option maxRecDepth 100000
set_option maxHeartbeats 4000000
/-! The law's draws. -/
namespace K03
open PySem PySem.Spec PyProof.Rows L2
theorem emod_nv (x : Int) {m : Nat} (h : 0 < m) : ∃ r : Nat, r < m ∧ V.int (x % (m : Int)) = nv r := by
  have h1 := Int.emod_nonneg x (show (m : Int) ≠ 0 by omega)
  have h2 := Int.emod_lt_of_pos x (show (0 : Int) < (m : Int) by omega)
  exact ⟨(x % (m : Int)).toNat, by omega, congrArg V.int (by omega)⟩
/-- an urn stands at u -/
def UrnAt (H : Hp) (u : Addr) : Prop := ∃ g d c : Int, H u = some (.lst [.int g, .int d, .int c])
theorem UrnAt.same {H H' : Hp} {u : Addr} (h : UrnAt H u) (s : Same H H') : UrnAt H' u := let ⟨g, d, c, e⟩ := h; ⟨g, d, c, s _ _ e⟩
theorem Off.same {u : Addr} {H H1 H2 : Hp} (s : Same H H1) (h : H u = none) (o : Off u H1 H2) : Same H H2 := fun b x e => o b x (s b x e) (ne_of_none e h)
theorem Off.sam {u : Addr} {H H1 H2 : Hp} (o : Off u H H1) (s : Same H1 H2) : Off u H H2 := o.trans (Off.of s)
/-- drawn parts stand at l -/
structure PartsAt (H : Hp) (l : Addr) (S : Nat → Bool) : Prop where
  ex : ∃ (tf tr : Addr) (few rests : List Nat) (f p : Nat), H l = some (.lst [.ref tf, nv f, nv p, .ref tr]) ∧ H tf = some (.tup (few.map nv)) ∧ H tr = some (.tup (rests.map nv)) ∧ Valid few f p rests ∧ f ≤ 9 ∧ p ∣ 60 ∧ ∀ n, mem few f p rests n = S n
theorem PartsAt.same {H H' : Hp} {l : Addr} {S : Nat → Bool} (h : PartsAt H l S) (s : Same H H') : PartsAt H' l S := by
  obtain ⟨tf, tr, few, rests, f, p, h1, h2, h3, h4⟩ := h.ex
  exact ⟨tf, tr, few, rests, f, p, s _ _ h1, s _ _ h2, s _ _ h3, h4⟩
theorem PartsAt.off {H H' : Hp} {l u : Addr} {S : Nat → Bool} (h : PartsAt H l S) (hu : UrnAt H u) (s : Off u H H') : PartsAt H' l S := by
  obtain ⟨tf, tr, few, rests, f, p, h1, h2, h3, h4⟩ := h.ex
  obtain ⟨g, d, c, e⟩ := hu
  exact ⟨tf, tr, few, rests, f, p, s _ _ h1 (ne_of h1 e (by intro z; cases z)), s _ _ h2 (ne_of h2 e (by intro z; cases z)), s _ _ h3 (ne_of h3 e (by intro z; cases z)), h4⟩
section
variable {P : Program} {w : World} {K : PySem.W.Frag} {mg : Str → Option Value} {base : Heap}
/-! ### _law_urn -/
def spUrn (K : PySem.W.Frag) : Sp := fun vs H Q _ => ∃ (a : Addr) (s : Nat) (ns : List Int), vs = [.ref a, nv s] ∧ SqL K H a (ns.map V.int) ∧ s ≤ 1000 ∧ ∀ H' u, Same H H' → H u = none → UrnAt H' u → Q (.ref u) H'
theorem scUrn : FnScope ["_law_script", "_law_spot", "_law_cell", "_law_great", "_law_seed"] ["_law_script", "_law_spot"] (defScope sUrn) := ⟨rfl, rfl, rfl, by decide +kernel, rfl, by decide +kernel, by decide +kernel⟩
theorem pow_big : (0 : Int) < ((10 : Int) ^ (59 : Int).toNat) ^ (10 : Int).toNat := by decide +kernel
theorem ok_urn {f : Addr} {fd : FuncData} (F : Fun K "_law_urn" "_law_urn" sUrn f fd) (B : Bi mg) : FnOk P w K mg base CX0 1 f fd ["_law_script", "_law_spot"] (spUrn K) := by
  refine F.ok scUrn (fun vs H Q E h => ?_) (fun cdv A outer s H vs Q E hr h => ?_)
  · obtain ⟨a, n, ns, rfl, _⟩ := h
    rfl
  · obtain ⟨a, n, ns, rfl, hS, hn, k⟩ := h
    refine ⟨_, C8.pss_cut (ps_set (i := 2) scUrn.nd rfl (Or.inl rfl) (pe_ifExp (pt_cmpR op_lt (pv 1) (pe_callB call_len_seq (by rfl) B.len PySem.boot_len (pa_cons (pv 0) pa_nil)) (nomark _)) (pe_ix ix_list (pv 0) (pv 1) (fun _ _ => rfl)) (pe_op op_add (pe_op op_mul pe_int (pv 1)) pe_int)))
      (pss_cons (ps_set (i := 3) scUrn.nd rfl (Or.inl rfl) (pe_op op_mod (pe_callTy call_int1 (by rfl) B.int (by decide +kernel) (pa_cons (pe_callB call_abs (by rfl) B.abs (by decide +kernel) (pa_cons (pv 2) pa_nil)) pa_nil)) (pe_op op_powB (pe_op op_powB pe_int pe_int) pe_int)))
      (pss_cons (ps_set (i := 4) scUrn.nd rfl (Or.inl rfl) (pe_op op_mod (pe_callTy call_int1 (by rfl) B.int (by decide +kernel) (pa_cons
          (pe_op op_add (pe_op op_add (pe_op op_add (pe_op op_mul (pv 3) pe_int) (pe_op op_mul pe_int (pv 1))) (pe_op op_mul pe_int (pe_callTy call_int1 (by rfl) B.int (by decide +kernel) (pa_cons (pe_cmpR op_lt (pv 2) pe_int (nomark _)) pa_nil)))) pe_int) pa_nil)) pe_int))
      (pss_one (ps_ret (pe_lst (pa_cons (pe_callB (call_max2 rfl) (by rfl) B.max (by decide +kernel) (pa_cons pe_int (pa_cons (pe_op op_sub (pv 3) (pe_op op_powB pe_int pe_int)) pa_nil))) (pa_cons (pv 4) (pa_cons pe_int pa_nil)))))))), ?_⟩
    refine ⟨fun σ' H' => H' = H ∧ ∃ z : Int, σ' = [some (.ref a), some (nv n), some (.int z), none, none], ?_, ?_⟩
    · refine ⟨_, rfl, _, rfl, a, _, rfl, .inl hS, _, _, rfl, rfl, _, rfl, ite2 (fun hc => ?_) (fun hc => ?_)⟩
      · have hlt : n < (ns.map V.int).length := by
          have := of_decide_eq_true hc
          omega
        refine ⟨_, rfl, _, rfl, a, _, (n : Int), (ns.map V.int)[n], rfl, rfl, hS, atI_nat (List.getElem?_eq_getElem hlt), rfl, ?_⟩
        rw [List.getElem_map]
        exact ⟨_, rfl⟩
      · exact ⟨_, rfl, _, _, rfl, rfl, .inl ⟨by decide, by decide⟩, _, _, rfl, rfl, rfl, _, rfl⟩
    · rintro σ' H' ⟨rfl, z, rfl⟩
      refine ⟨_, rfl, _, rfl, .inl ⟨_, rfl, _, _, rfl, rfl, ⟨by decide, by decide +kernel⟩, _, _, rfl, rfl, ⟨by decide, by decide +kernel⟩, _, _, rfl, rfl, pow_big, ?_⟩⟩
      refine ⟨_, rfl, _, _, rfl, rfl, .inr ⟨by decide, by decide⟩, _, rfl, _, _, rfl, rfl, .inl ⟨by decide, by decide⟩, _, _, rfl, rfl, _, rfl, _, _, rfl, rfl, .inr ⟨_, rfl, _, _, rfl, rfl, .inl ⟨by decide, by decide⟩, _, _, rfl, rfl, _, _, rfl, rfl, .inl ⟨_, rfl, _, _, rfl, rfl, (show (0 : Int) < 1152921504606846803 by decide), ?_⟩⟩⟩
      refine ⟨_, rfl, _, _, rfl, rfl, ⟨by decide, by decide +kernel⟩, _, _, rfl, rfl, _, _, rfl, _, rfl, small_len (by show 3 ≤ 1000; decide), fun u nu => ?_⟩
      exact k _ u (same_upd nu) nu ⟨_, _, _, upd_same⟩
/-! ### _law_toss -/
def spToss : Sp := fun vs H Q _ => ∃ (u : Addr) (m : Nat), vs = [.ref u, nv m] ∧ 0 < m ∧ m ≤ 1000 ∧ UrnAt H u ∧ ∀ H' r, r < m → UrnAt H' u → Off u H H' → Q (nv r) H'
theorem scToss : FnScope ["_law_urn_here", "_law_size", "_law_found", "_law_one", "_law_two"] ["_law_urn_here", "_law_size"] (defScope sToss) := ⟨rfl, rfl, rfl, by decide +kernel, rfl, by decide +kernel, by decide +kernel⟩
theorem ok_toss {f : Addr} {fd : FuncData} (F : Fun K "_law_toss" "_law_toss" sToss f fd) (B : Bi mg) : FnOk P w K mg base CX0 1 f fd ["_law_urn_here", "_law_size"] spToss := by
  refine F.ok scToss (fun vs H Q E h => ?_) (fun cdv A outer s H vs Q E hr h => ?_)
  · obtain ⟨u, m, rfl, _⟩ := h
    rfl
  · obtain ⟨u, m, rfl, hm, hm2, ⟨g, d, c, hu⟩, k⟩ := h
    refine ⟨_, pss_cons (ps_if (pt_cmpR op_gt (pe_ix ix_list (pv 0) pe_int (fun _ _ => rfl)) pe_int (nomark _))
        (pss_cons (ps_set (i := 2) scToss.nd rfl (Or.inl rfl) (pe_op op_mod (pe_callTy call_int1 (by rfl) B.int (by decide +kernel) (pa_cons (pe_ix ix_list (pv 0) pe_int (fun _ _ => rfl)) pa_nil)) (pv 1)))
        (pss_cons (ps_asg (pe_op op_fdiv (pe_ix ix_list (pv 0) pe_int (fun _ _ => rfl)) (pv 1)) (pg_sub (pv 0) pe_int set_list))
        (pss_one (ps_ret (pv 2))))) pss_nil)
      (pss_cons (ps_asg (pe_op op_add (pe_ix ix_list (pv 0) pe_int (fun _ _ => rfl)) pe_int) (pg_sub (pv 0) pe_int set_list))
      (pss_cons (ps_set (i := 3) scToss.nd rfl (Or.inl rfl) (pe_op op_mod (pe_callTy call_int1 (by rfl) B.int (by decide +kernel) (pa_cons (pe_op op_add (pe_ix ix_list (pv 0) pe_int (fun _ _ => rfl)) (pe_op op_mul pe_int (pe_ix ix_list (pv 0) pe_int (fun _ _ => rfl)))) pa_nil)) pe_int))
      (pss_cons (ps_set (i := 4) scToss.nd rfl (Or.inl rfl) (pe_op op_add (pe_op op_mul (pe_op op_mod (pe_callTy call_int1 (by rfl) B.int (by decide +kernel) (pa_cons (pe_op op_mul (pv 3) (pv 3)) pa_nil)) pe_int) (pv 3)) (pe_op op_mul pe_int (pe_ix ix_list (pv 0) pe_int (fun _ _ => rfl)))))
      (pss_one (ps_ret (pe_op op_mod (pe_callTy call_int1 (by rfl) B.int (by decide +kernel) (pa_cons (pe_op op_fdiv (pe_op op_mod (pe_callTy call_int1 (by rfl) B.int (by decide +kernel) (pa_cons (pe_op op_add (pv 4) (pe_ix ix_list (pv 0) pe_int (fun _ _ => rfl))) pa_nil)) pe_int) pe_int) pa_nil)) (pv 1))))))), ?_⟩
    refine ⟨_, rfl, u, _, 0, _, rfl, rfl, SqL.of hu, atI_nat (j := 0) rfl, _, _, rfl, rfl, _, rfl, ite2 (fun hc => ?_) (fun hc => ?_)⟩
    · obtain ⟨r, hr1, er⟩ := emod_nv g hm
      refine ⟨_, rfl, u, _, 0, _, rfl, rfl, SqL.of hu, atI_nat (j := 0) rfl, .inl ⟨_, rfl, _, rfl, _, _, rfl, rfl, by omega, ?_⟩⟩
      refine ⟨_, rfl, u, _, 0, _, rfl, rfl, SqL.of hu, atI_nat (j := 0) rfl, _, rfl, _, _, rfl, rfl, ⟨by omega, by omega⟩, _, rfl, u, _, 0, 0, rfl, rfl, hu, rfl, _, rfl, ?_⟩
      refine q_v (k (upd H u (.lst [.int (g / (m : Int)), .int d, .int c])) r hr1 ⟨_, _, _, upd_same⟩ (Off.of (Same.refl H)).put) er
    · refine ⟨_, rfl, u, _, 2, _, rfl, rfl, SqL.of hu, atI_nat (j := 2) rfl, _, _, rfl, rfl, _, rfl, u, _, 2, 2, rfl, rfl, hu, rfl, ?_⟩
      have h2 : (upd H u (.lst [.int g, .int d, .int (c + 1)])) u = some (.lst [.int g, .int d, .int (c + 1)]) := upd_same
      have o2 : Off u H (upd H u (.lst [.int g, .int d, .int (c + 1)])) := (Off.of (Same.refl H)).put
      show (tSeq _ _) _ _ (upd H u (.lst [.int g, .int d, .int (c + 1)]))
      generalize upd H u (.lst [.int g, .int d, .int (c + 1)]) = H2 at h2 o2
      refine ⟨_, rfl, u, _, 1, _, rfl, rfl, SqL.of h2, atI_nat (j := 1) rfl, _, rfl, u, _, 2, _, rfl, rfl, SqL.of h2, atI_nat (j := 2) rfl, _, _, rfl, rfl, .inl ⟨by decide, by decide⟩, _, _, rfl, rfl, .inl ⟨_, rfl, _, _, rfl, rfl, (show (0 : Int) < 2305843009213693907 by decide), ?_⟩⟩
      have b1 := Int.emod_nonneg (d + 920419813 * (c + 1)) (show (2305843009213693907 : Int) ≠ 0 by decide)
      have b2 := Int.emod_lt_of_pos (d + 920419813 * (c + 1)) (show (0 : Int) < 2305843009213693907 by decide)
      dsimp only
      generalize (d + 920419813 * (c + 1)) % 2305843009213693907 = one at b1 b2
      have cm : CMul one one := .inl ⟨by omega, by omega⟩
      refine ⟨_, rfl, _, rfl, _, _, rfl, rfl, cm, .inl ⟨_, rfl, _, _, rfl, rfl, (show (0 : Int) < 1000000000000037 by decide), _, rfl, _, _, rfl, rfl, .inr ⟨by omega, by omega⟩, _, rfl, u, _, 2, _, rfl, rfl, SqL.of h2, atI_nat (j := 2) rfl, _, _, rfl, rfl, .inl ⟨by decide, by decide⟩, _, _, rfl, rfl, ?_⟩⟩
      refine ⟨_, rfl, _, rfl, u, _, 1, _, rfl, rfl, SqL.of h2, atI_nat (j := 1) rfl, _, _, rfl, rfl, .inl ⟨_, rfl, _, _, rfl, rfl, (show (0 : Int) < 4398046511093 by decide), _, _, rfl, rfl, ⟨by decide, by decide⟩, .inl ⟨_, rfl, _, rfl, _, _, rfl, rfl, by omega, ?_⟩⟩⟩
      obtain ⟨r, hr1, er⟩ := emod_nv _ hm
      exact q_v (k H2 r hr1 ⟨_, _, _, h2⟩ o2) er
/-! ### _law_pick -/
def spPick : Sp := fun vs H Q _ => ∃ (u l : Addr) (ns : List Nat), vs = [.ref u, .ref l] ∧ UrnAt H u ∧ H l = some (.lst (ns.map nv)) ∧ l ≠ u ∧ 0 < ns.length ∧ ns.length ≤ 1000 ∧ ∀ H' n, n ∈ ns → UrnAt H' u → Off u H H' → Q (nv n) H'
theorem scPick : FnScope ["_law_urn_here", "_law_items"] ["_law_urn_here", "_law_items"] (defScope sPick) := ⟨rfl, rfl, rfl, by decide +kernel, rfl, by decide +kernel, by decide +kernel⟩
theorem ok_pick {f : Addr} {fd : FuncData} (F : Fun K "_law_pick" "_law_pick" sPick f fd) (B : Bi mg) (cT : C8.Cal P w K mg base 1 "_law_toss" spToss []) : FnOk P w K mg base CX0 2 f fd ["_law_urn_here", "_law_items"] spPick := by
  refine F.ok scPick (fun vs H Q E h => ?_) (fun cdv A outer s H vs Q E hr h => ?_)
  · obtain ⟨u, l, ns, rfl, _⟩ := h
    rfl
  · obtain ⟨u, l, ns, rfl, hu, hl, ne, h0, h1, k⟩ := h
    refine ⟨_, pss_one (ps_ret (pe_ix ix_list (pv 1) (C8.pe_c cT hr (by decide) (by rfl) (pa_cons (pv 0) (pa_cons (pe_callB call_len_seq (by rfl) B.len PySem.boot_len (pa_cons (pv 1) pa_nil)) pa_nil))) (fun _ _ => rfl))), ?_⟩
    refine ⟨_, rfl, _, rfl, _, rfl, l, _, rfl, .inl (SqL.of hl), u, (ns.map nv).length, rfl, by rw [List.length_map]; exact h0, by rw [List.length_map]; exact h1, hu, fun H' r hr1 hu' o => ?_⟩
    have hr2 : r < ns.length := by
      rw [List.length_map] at hr1
      exact hr1
    refine ⟨l, _, _, nv ns[r], rfl, rfl, SqL.of (o _ _ hl ne), atI_nat (by rw [List.getElem?_map, List.getElem?_eq_getElem hr2]; rfl), ?_⟩
    exact k H' ns[r] (List.getElem_mem hr2) hu' o
end
end K03


-- text K03G
set_option Elab.async false
set_option linter.all false
set_option maxRecDepth 100000
set_option maxHeartbeats 4000000
/-! The law's drawn parts, its own membership, its turn by turn comparison. -/
namespace K03
open PySem PySem.Spec PyProof.Rows L2
def DrawP (u D : Addr) (H0 : Hp) (i : Nat) (H1 : Hp) : Prop := Off u H0 H1 ∧ UrnAt H1 u ∧ ∃ zs : List Nat, H1 D = some (.lst (zs.map nv)) ∧ zs.Pairwise (· < ·) ∧ (∀ x ∈ zs, x < i) ∧ zs.length ≤ i
theorem draw_fin {D u : Addr} {j i : Nat} {σ2 : L2.St} {H0 H1 H2 : Hp} (b : Bool) (hσ : σ2[j]? = some (some (nv i))) (nD : D ≠ u) (hD0 : H0 D = none) (p : DrawP u D H0 i H1) (o : Off u H1 H2) (hu : UrnAt H2 u) (hi : i ≤ 900) :
    if b = true then tVar j σ2 H2 fun y H4 => ∃ acc, H4 D = some (.lst acc) ∧ acc.length < sizeLine ∧ DrawP u D H0 (i + 1) (upd H4 D (.lst (acc ++ [y]))) else DrawP u D H0 (i + 1) H2 := by
  obtain ⟨o1, hu1, zs, eD, hp, hl, hn⟩ := p
  have eD2 := o _ _ eD nD
  have o02 := o1.trans o
  cases b with
  | true =>
    rw [if_pos rfl]
    obtain ⟨g, d, c, hu⟩ := hu
    refine ⟨_, hσ, _, eD2, ?_, fun a x e ne => ?_, ⟨g, d, c, (upd_ne nD.symm).trans hu⟩, zs ++ [i], ?_, ?_, ?_, ?_⟩
    · rw [List.length_map]
      exact small1000 (by omega)
    · rw [upd_ne (ne_of_none e hD0)]
      exact o02 a x e ne
    · rw [upd_same, List.map_append]
      rfl
    · rw [List.pairwise_append]
      exact ⟨hp, List.pairwise_singleton _ _, fun a ha b hb => by
        rw [List.mem_singleton.mp hb]
        exact hl a ha⟩
    · intro x hx
      rcases List.mem_append.mp hx with h | h
      · have := hl x h
        omega
      · rw [List.mem_singleton.mp h]
        exact Nat.lt_succ_self i
    · rw [List.length_append, List.length_singleton]
      omega
  | false =>
    rw [if_neg Bool.false_ne_true]
    exact ⟨o02, hu, zs, eD2, hp, fun x hx => Nat.lt_succ_of_lt (hl x hx), Nat.le_succ_of_le hn⟩
theorem draw_start {D u : Addr} {H : Hp} (hD : H D = none) (hu : UrnAt H u) : DrawP u D H 0 (upd H D (.lst [])) :=
  ⟨Off.of (same_upd hD), hu.same (same_upd hD), [], upd_same, .nil, by simp, Nat.le_refl _⟩
theorem menu1 : ∀ x ∈ [0, 3, 1, 6, 2, 9], x ≤ 9 := by decide
theorem menu2 : ∀ x ∈ [1, 2, 3, 6, 4, 5, 12], x ∣ 60 ∧ 0 < x := by decide
def dueB (w : Str) (a b : Bool) : Bool := if w = "and" then a && b else if w = "or" then a || b else if w = "xor" then a != b else a && !b
section
variable {P : Program} {w : World} {K : PySem.W.Frag} {mg : Str → Option Value} {base : Heap}
/-! ### _law_drawn -/
def spDrawn : Sp := fun vs H Q _ => ∃ u : Addr, vs = [.ref u] ∧ UrnAt H u ∧ ∀ H' l S, UrnAt H' u → Off u H H' → PartsAt H' l S → Q (.ref l) H'
theorem scDrawn : FnScope ["_law_urn_here", "_law_first", "_law_period", "_law_few", "_law_way", "_law_rests", "_law_number", "_law_rest"] ["_law_urn_here"] (defScope sDrawn) := ⟨rfl, rfl, rfl, by decide +kernel, rfl, by decide +kernel, by decide +kernel⟩
theorem ok_drawn {f : Addr} {fd : FuncData} (F : Fun K "_law_drawn" "_law_drawn" sDrawn f fd) (B : Bi mg) (cP : C8.Cal P w K mg base 2 "_law_pick" spPick []) (cT : C8.Cal P w K mg base 1 "_law_toss" spToss []) : FnOk P w K mg base CX0 3 f fd ["_law_urn_here"] spDrawn := by
  refine F.ok scDrawn (fun vs H Q E h => ?_) (fun cdv A outer s H vs Q E hr h => ?_)
  · obtain ⟨u, rfl, _⟩ := h
    rfl
  · obtain ⟨u, rfl, hu, k⟩ := h
    refine ⟨_, pss_cons (ps_par (i := 1) (j := 2) rfl scDrawn.nd rfl rfl (by decide) rfl rfl
        (pa_cons (C8.pe_c cP hr (by decide) (by rfl) (pa_cons (pv 0) (pa_cons (pe_lst (pa_cons pe_int (pa_cons pe_int (pa_cons pe_int (pa_cons pe_int (pa_cons pe_int (pa_cons pe_int pa_nil))))))) pa_nil)))
        (pa_cons (C8.pe_c cP hr (by decide) (by rfl) (pa_cons (pv 0) (pa_cons (pe_lst (pa_cons pe_int (pa_cons pe_int (pa_cons pe_int (pa_cons pe_int (pa_cons pe_int (pa_cons pe_int (pa_cons pe_int pa_nil)))))))) pa_nil))) pa_nil)) (by rfl))
      (pss_cons (ps_set (i := 3) scDrawn.nd rfl (Or.inl rfl) (pe_callTy call_tuple_of (by rfl) B.tuple (by decide +kernel) (pa_cons
          (pe_lc (own := [("_law_number", 6)]) (g := gName 6) rfl scDrawn.nd (pi_range1 (by rfl) B.range (pa_cons (pv 1) pa_nil)) (blkOk_by (N := ["_law_urn_here", "_law_first", "_law_period", "_law_few", "_law_way", "_law_rests", "_law_number", "_law_rest"]) (sc := defScope sDrawn) (by decide +kernel))
            (fun _ _ _ _ _ => pg_name (i := 6) scDrawn.nd rfl (Or.inl rfl)) (fun _ _ _ _ _ => pts_one (pt_cmpR op_eq (C8.pe_c cT hr (by decide) (by rfl) (pa_cons (pv 0) (pa_cons pe_int pa_nil))) pe_int (nomark _))) (fun _ _ _ _ _ => pv 6)) pa_nil)))
      (pss_cons (ps_set (i := 4) scDrawn.nd rfl (Or.inr rfl) (C8.pe_c cT hr (by decide) (by rfl) (pa_cons (pv 0) (pa_cons pe_int pa_nil))))
      (pss_cons (ps_setLc (i := 5) (own := [("_law_rest", 7)]) (g := gName 7) rfl scDrawn.nd rfl rfl (sw_true rfl rfl rfl (by decide +kernel)) (pi_range1 (by rfl) B.range (pa_cons (pv 2) pa_nil)) (blkOk_by (N := ["_law_urn_here", "_law_first", "_law_period", "_law_few", "_law_way", "_law_rests", "_law_number", "_law_rest"]) (sc := defScope sDrawn) (by decide +kernel))
          (fun _ _ _ _ _ => pg_name (i := 7) scDrawn.nd rfl (Or.inl rfl))
          (fun _ _ _ _ _ => pts_one (PW.pt (pw_or (pt_cmpR op_eq (pv 4) pe_int (nomark _)) (pw_or1 (PW.pt (pw_and (pt_cmpR op_gt (pv 4) pe_int (nomark _)) (pw_and1 (pt_cmpR op_eq (C8.pe_c cT hr (by decide) (by rfl) (pa_cons (pv 0) (pa_cons pe_int pa_nil))) pe_int (nomark _)))))))))
          (fun _ _ _ _ _ => pv 7))
      (pss_one (ps_ret (pe_lst (pa_cons (pv 3) (pa_cons (pv 1) (pa_cons (pv 2) (pa_cons (pe_callTy call_tuple_of (by rfl) B.tuple (by decide +kernel) (pa_cons (pv 5) pa_nil)) pa_nil)))))))))), ?_⟩
    have nu : ∀ {H1 : Hp} {D : Addr}, UrnAt H1 u → H1 D = none → D ≠ u := fun {H1 D} ⟨g, d, c, e⟩ n => (ne_of_none e n).symm
    -- the two picks
    refine ⟨_, rfl, small_len (by show 6 ≤ 1000; decide), fun l1 nl1 => ?_⟩
    refine ⟨u, l1, [0, 3, 1, 6, 2, 9], rfl, hu.same (same_upd nl1), upd_same, nu hu nl1, by decide, by decide, fun H1 n1 hn1 u1 o1 => ?_⟩
    refine ⟨_, rfl, small_len (by show 7 ≤ 1000; decide), fun l2 nl2 => ?_⟩
    refine ⟨u, l2, [1, 2, 3, 6, 4, 5, 12], rfl, u1.same (same_upd nl2), upd_same, nu u1 nl2, by decide, by decide, fun H2 n2 hn2 u2 o2 => ⟨_, _, rfl, ?_⟩⟩
    have o02 : Off u H H2 := ((Off.of (same_upd nl1)).trans o1).trans ((Off.of (same_upd nl2)).trans o2)
    have b1 := menu1 n1 hn1
    obtain ⟨b2, b3⟩ := menu2 n2 hn2
    have b4 := p60 b2
    -- few
    refine ⟨_, rfl, _, rfl, by omega, by omega, fun D3 hD3 => ?_⟩
    refine lc_range (lo := 0) (n := n1) (DrawP u D3 H2) (draw_start hD3 u2) ?_ ?_
    · rintro i H3 hi p3
      rw [show V.int (0 + (i : Int)) = nv i by rw [Int.zero_add]]
      refine ⟨rfl, _, rfl, u, 2, rfl, by decide, by decide, p3.2.1, fun H4 r hr4 u4 o4 => ⟨rfl, _, rfl, ?_⟩⟩
      exact draw_fin _ rfl (nu u2 hD3) hD3 p3 o4 u4 (by omega)
    rintro H3 ⟨o3, u3, zs, e3, z1, z2, z3⟩
    refine ⟨D3, _, rfl, .inl ⟨SqL.of e3, fun l4 nl4 => ?_⟩⟩
    have u4 := u3.same (same_upd (o := .tup (zs.map nv)) nl4)
    have e4 : (upd H3 l4 (.tup (zs.map nv))) l4 = some (.tup (zs.map nv)) := upd_same
    have o04 : Off u H (upd H3 l4 (.tup (zs.map nv))) := o02.trans (o3.trans (Off.of (same_upd nl4)))
    have n4 := nu u3 nl4
    show tSeq _ _ _ _ (upd H3 l4 (.tup (zs.map nv)))
    generalize upd H3 l4 (.tup (zs.map nv)) = H4 at u4 e4 o04
    -- way
    refine ⟨_, rfl, u, 4, rfl, by decide, by decide, u4, fun H5 wy hwy u5 o5 => ?_⟩
    -- rests
    refine ⟨_, rfl, _, rfl, by omega, by omega, fun D6 hD6 => ?_⟩
    refine lc_range (lo := 0) (n := n2) (DrawP u D6 H5) (draw_start hD6 u5) ?_ ?_
    · rintro i H6 hi p6
      rw [show V.int (0 + (i : Int)) = nv i by rw [Int.zero_add]]
      refine ⟨rfl, _, rfl, rfl, _, rfl, ite2 (fun _ => ?_) (fun _ => ?_)⟩
      · exact draw_fin true rfl (nu u5 hD6) hD6 p6 (Off.of (Same.refl _)) p6.2.1 (by omega)
      · refine ⟨_, rfl, _, _, rfl, rfl, _, rfl, ite2 (fun _ => ?_) (fun _ => ?_)⟩
        · refine ⟨_, rfl, u, 2, rfl, by decide, by decide, p6.2.1, fun H7 r hr7 u7 o7 => ⟨rfl, _, rfl, ?_⟩⟩
          exact draw_fin _ rfl (nu u5 hD6) hD6 p6 o7 u7 (by omega)
        · exact draw_fin false rfl (nu u5 hD6) hD6 p6 (Off.of (Same.refl _)) p6.2.1 (by omega)
    rintro H6 ⟨o6, u6, ys, e6, y1, y2, y3⟩
    have e46 := o6 _ _ (o5 _ _ e4 n4) n4
    -- the four
    refine ⟨_, rfl, _, rfl, _, rfl, _, rfl, D6, _, rfl, .inl ⟨SqL.of e6, fun l7 nl7 => ⟨small_len (by show 4 ≤ 1000; decide), fun l8 nl8 => ?_⟩⟩⟩
    have s8 := (same_upd (o := .tup (ys.map nv)) nl7).trans (same_upd (o := .lst [.ref l4, nv n1, nv n2, .ref l7]) nl8)
    refine k _ l8 (mem zs n1 n2 ys) (u6.same s8) (o04.trans (o5.trans (o6.trans (Off.of s8)))) ⟨l4, l7, zs, ys, n1, n2, upd_same, s8 _ _ e46, (same_upd nl8) _ _ upd_same, ⟨z1, z2, y1, y2, b3⟩, b1, b2, fun _ => rfl⟩
/-! ### _law_has -/
def spLHas : Sp := fun vs H Q _ => ∃ (l : Addr) (n : Nat) (S : Nat → Bool), vs = [.ref l, nv n] ∧ PartsAt H l S ∧ Q (.bl (S n)) H
theorem scLHas : FnScope ["_law_parts", "_law_number"] ["_law_parts", "_law_number"] (defScope sLHas) := ⟨rfl, rfl, rfl, by decide +kernel, rfl, by decide +kernel, by decide +kernel⟩
theorem ok_lhas {f : Addr} {fd : FuncData} (F : Fun K "_law_has" "_law_has" sLHas f fd) : FnOk P w K mg base CX0 1 f fd ["_law_parts", "_law_number"] spLHas := by
  refine F.ok scLHas (fun vs H Q E h => ?_) (fun cdv A outer s H vs Q E hr h => ?_)
  · obtain ⟨l, n, S, rfl, _⟩ := h
    rfl
  · obtain ⟨l, n, S, rfl, L, k⟩ := h
    obtain ⟨tf, tr, few, rests, f, p, h1, h2, h3, Vd, hf, hp, hm⟩ := L.ex
    have hp0 := Vd.pos
    refine ⟨_, pss_one (ps_ret (pe_ifExp (pt_cmpR op_lt (pv 1) (pe_ix ix_list (pv 0) pe_int (fun _ _ => rfl)) (nomark _)) (pe_cmpR op_in_seq (pv 1) (pe_ix ix_list (pv 0) pe_int (fun _ _ => rfl)) (by rfl))
      (pe_cmpR op_in_seq (pe_op op_mod (pv 1) (pe_ix ix_list (pv 0) pe_int (fun _ _ => rfl))) (pe_ix ix_list (pv 0) pe_int (fun _ _ => rfl)) (by rfl)))), ?_⟩
    refine ⟨_, rfl, _, rfl, l, _, 1, _, rfl, rfl, SqL.of h1, atI_nat (j := 1) rfl, _, _, rfl, rfl, _, rfl, ite2 (fun hc => ?_) (fun hc => ?_)⟩
    · have hlt : n < f := by
        have := of_decide_eq_true hc
        omega
      refine ⟨_, rfl, _, rfl, l, _, 0, _, rfl, rfl, SqL.of h1, atI_nat (j := 0) rfl, tf, few.map nv, rfl, .inr (SqT.of h2), rfl, flat_nv _, ?_⟩
      refine q_bl k ?_
      rw [← hm n, mem_few hlt]
      exact inV_nv n few
    · have hge : f ≤ n := Nat.le_of_not_lt fun z => hc (decide_eq_true (by omega))
      refine ⟨_, rfl, _, rfl, l, _, 2, _, rfl, rfl, SqL.of h1, atI_nat (j := 2) rfl, _, _, rfl, rfl, by omega, _, rfl, l, _, 3, _, rfl, rfl, SqL.of h1, atI_nat (j := 3) rfl, tr, rests.map nv, rfl, .inr (SqT.of h3), rfl, flat_nv _, ?_⟩
      refine q_bl k ?_
      rw [← hm n, mem_tail hge]
      unfold tail
      show inV (V.int ((n : Int) % (p : Int))) (rests.map nv) = _
      rw [nv_mod]
      exact inV_nv (n % p) rests
/-! ### _law_limits -/
def spLLim (C : Addr) : Sp := fun vs H Q _ => ∃ (l : Addr) (S : Nat → Bool), vs = [.ref l] ∧ PartsAt H l S ∧ ∀ H' z, Same H H' → LimAt C H' z S → Q (.ref z) H'
theorem scLLim : FnScope ["_law_parts"] ["_law_parts"] (defScope sLLimits) := ⟨rfl, rfl, rfl, by decide +kernel, rfl, by decide +kernel, by decide +kernel⟩
theorem ok_llim {f C : Addr} {fd : FuncData} (F : Fun K "_law_limits" "_law_limits" sLLimits f fd) (cM : C8.Mak P w K mg base 4 "Limits" C (spInit C) []) : FnOk P w K mg base CX0 6 f fd ["_law_parts"] (spLLim C) := by
  refine F.ok scLLim (fun vs H Q E h => ?_) (fun cdv A outer s H vs Q E hr h => ?_)
  · obtain ⟨l, S, rfl, _⟩ := h
    rfl
  · obtain ⟨l, S, rfl, L, k⟩ := h
    obtain ⟨tf, tr, few, rests, f, p, h1, h2, h3, Vd, hf, hp, hm⟩ := L.ex
    refine ⟨_, pss_one (ps_ret (C8.pe_mk cM hr (by decide) (by rfl) (pa_cons (pe_ix ix_list (pv 0) pe_int (fun _ _ => rfl)) (pa_cons (pe_ix ix_list (pv 0) pe_int (fun _ _ => rfl)) (pa_cons (pe_ix ix_list (pv 0) pe_int (fun _ _ => rfl)) (pa_cons (pe_ix ix_list (pv 0) pe_int (fun _ _ => rfl)) pa_nil)))))), ?_⟩
    refine ⟨_, rfl, l, _, 0, _, rfl, rfl, SqL.of h1, atI_nat (j := 0) rfl, _, rfl, l, _, 1, _, rfl, rfl, SqL.of h1, atI_nat (j := 1) rfl, _, rfl, l, _, 2, _, rfl, rfl, SqL.of h1, atI_nat (j := 2) rfl, _, rfl, l, _, 3, _, rfl, rfl, SqL.of h1, atI_nat (j := 3) rfl, ?_⟩
    exact mk_lim h2 h3 Vd hf hp fun H' z s' lim => k H' z s' (lim.congr hm)
/-! ### _law_due -/
def spDue : Sp := fun vs H Q _ => ∃ (x : Str) (a b : Bool), vs = [.str x, .bl a, .bl b] ∧ Q (.bl (dueB x a b)) H
theorem scDue : FnScope ["_law_way", "_law_one", "_law_other"] ["_law_way", "_law_one", "_law_other"] (defScope sDue) := ⟨rfl, rfl, rfl, by decide +kernel, rfl, by decide +kernel, by decide +kernel⟩
theorem ok_due {f : Addr} {fd : FuncData} (F : Fun K "_law_due" "_law_due" sDue f fd) : FnOk P w K mg base CX0 1 f fd ["_law_way", "_law_one", "_law_other"] spDue := by
  refine F.ok scDue (fun vs H Q E h => ?_) (fun cdv A outer s H vs Q E hr h => ?_)
  · obtain ⟨x, a, b, rfl, _⟩ := h
    rfl
  · obtain ⟨x, a, b, rfl, k⟩ := h
    refine ⟨_, pss_cons (ps_if (pt_cmpR op_eq (pv 0) pe_str (nomark _)) (pss_one (ps_ret (pe_and (pv 1) (pe_one (pv 2))))) pss_nil)
      (pss_cons (ps_if (pt_cmpR op_eq (pv 0) pe_str (nomark _)) (pss_one (ps_ret (pe_or (pv 1) (pe_one (pv 2))))) pss_nil)
      (pss_one (ps_ret (pe_ifExp (pt_cmpR op_eq (pv 0) pe_str (nomark _)) (pe_cmpR op_ne (pv 1) (pv 2) (nomark _)) (pe_and (pv 1) (pe_one (pe_not (pv 2)))))))), ?_⟩
    have inj : ∀ {y z : Str}, decide (V.str y = V.str z) = true → y = z := fun h => V.str.inj (of_decide_eq_true h)
    have nin : ∀ {y z : Str}, ¬ decide (V.str y = V.str z) = true → ¬ y = z := fun h e => h (decide_eq_true (by rw [e]))
    refine ⟨_, rfl, rfl, _, rfl, ite2 (fun h1 => ?_) (fun h1 => ?_)⟩
    · have e1 : dueB x a b = (a && b) := by unfold dueB; rw [if_pos (inj h1)]
      rw [e1] at k
      refine ⟨_, rfl, a, rfl, ?_⟩
      cases a with
      | true => exact iteT ⟨_, rfl, k⟩
      | false => exact iteF k
    refine ⟨_, rfl, rfl, _, rfl, ite2 (fun h2 => ?_) (fun h2 => ?_)⟩
    · have e1 : dueB x a b = (a || b) := by unfold dueB; rw [if_neg (nin h1), if_pos (inj h2)]
      rw [e1] at k
      refine ⟨_, rfl, a, rfl, ?_⟩
      cases a with
      | true => exact iteT k
      | false => exact iteF ⟨_, rfl, k⟩
    refine ⟨_, rfl, rfl, _, rfl, ite2 (fun h3 => ?_) (fun h3 => ?_)⟩
    · have e1 : dueB x a b = (a != b) := by unfold dueB; rw [if_neg (nin h1), if_neg (nin h2), if_pos (inj h3)]
      rw [e1] at k
      refine ⟨_, rfl, _, rfl, rfl, q_bl k ?_⟩
      rw [dec_bl]
      rfl
    · have e1 : dueB x a b = (a && !b) := by unfold dueB; rw [if_neg (nin h1), if_neg (nin h2), if_neg (nin h3)]
      rw [e1] at k
      refine ⟨_, rfl, a, rfl, ?_⟩
      cases a with
      | true => exact iteT ⟨_, rfl, b, rfl, k⟩
      | false => exact iteF k
/-! ### _law_is_by -/
def spIsBy (C : Addr) : Sp := fun vs H Q _ => ∃ (z l l0 l1 l2 : Addr) (x : Str) (R S T : Nat → Bool), vs = [.ref z, .ref l, .str x] ∧ LimAt C H z R ∧ H l = some (.lst [.ref l0, .ref l1, .ref l2]) ∧ PartsAt H l0 S ∧ PartsAt H l1 T ∧ (∀ n, R n = dueB x (S n) (T n)) ∧ Q (.bl true) H
theorem scIsBy : FnScope ["_law_found", "_law_some", "_law_way", "_law_at"] ["_law_found", "_law_some", "_law_way"] (defScope sIsBy) := ⟨rfl, rfl, rfl, by decide +kernel, rfl, by decide +kernel, by decide +kernel⟩
theorem ok_isby {f C : Addr} {fd : FuncData} (F : Fun K "_law_is_by" "_law_is_by" sIsBy f fd) (B : Bi mg) (oC : Own P w K mg base 2 C "__contains__" (spCont C)) (cD : C8.Cal P w K mg base 1 "_law_due" spDue []) (cH : C8.Cal P w K mg base 1 "_law_has" spLHas []) : FnOk P w K mg base CX0 3 f fd ["_law_found", "_law_some", "_law_way"] (spIsBy C) := by
  refine F.ok scIsBy (fun vs H Q E h => ?_) (fun cdv A outer s H vs Q E hr h => ?_)
  · obtain ⟨z, l, l0, l1, l2, x, R, S, T, rfl, _⟩ := h
    rfl
  · obtain ⟨z, l, l0, l1, l2, x, R, S, T, rfl, Lz, hl, P0, P1, hR, k⟩ := h
    obtain ⟨dz, _, _, _, _, _, _, _, hz, _⟩ := Lz.ex
    refine ⟨_, pss_cons (ps_for PassesOwn.never rfl (pi_range1 (by rfl) B.range (pa_cons pe_int pa_nil)) (pg_name (i := 3) scIsBy.nd rfl (Or.inl rfl))
        (pss_one (ps_if (pt_cmpR op_ne (pe_cmpR (opin oC hr (by decide)) (pv 3) (pv 0) (by rfl))
          (C8.pe_c cD hr (by decide) (by rfl) (pa_cons (pv 2) (pa_cons (C8.pe_c cH hr (by decide) (by rfl) (pa_cons (pe_ix ix_list (pv 1) pe_int (fun _ _ => rfl)) (pa_cons (pv 3) pa_nil))) (pa_cons (C8.pe_c cH hr (by decide) (by rfl) (pa_cons (pe_ix ix_list (pv 1) pe_int (fun _ _ => rfl)) (pa_cons (pv 3) pa_nil))) pa_nil)))) (nomark _))
          (pss_one (ps_ret pe_bl)) pss_nil)))
      (pss_one (ps_ret pe_bl)), ?_⟩
    refine ⟨180, rfl, by decide, by decide, ?_⟩
    refine for_range (lo := 0) (n := 180) (fun i σ H' => H' = H ∧ ∃ v, σ = [some (.ref z), some (.ref l), some (.str x), v]) ⟨rfl, none, rfl⟩ ?_ ?_
    · rintro i σ H' hi ⟨rfl, v, rfl⟩
      rw [show V.int (0 + (i : Int)) = nv i by rw [Int.zero_add]]
      refine ⟨_, rfl, _, rfl, z, dz, _, rfl, hz, z, i, R, rfl, Lz, by omega, R i, rfl, ?_⟩
      refine ⟨_, rfl, _, rfl, l, _, 0, _, rfl, rfl, SqL.of hl, atI_nat (j := 0) rfl, _, rfl, l0, i, S, rfl, P0, ?_⟩
      refine ⟨_, rfl, l, _, 1, _, rfl, rfl, SqL.of hl, atI_nat (j := 1) rfl, _, rfl, l1, i, T, rfl, P1, ?_⟩
      refine ⟨x, S i, T i, rfl, rfl, _, rfl, ?_⟩
      refine iteNS (congrArg V.bl (hR i)) ⟨rfl, _, rfl⟩
    · rintro σ H' ⟨rfl, v, rfl⟩
      exact k
end
end K03


-- text K03H
set_option Elab.async false
set_option linter.all false
set_option maxRecDepth 100000
set_option maxHeartbeats 8000000
/-! The law's one case: _law_right. -/
namespace K03
open PySem PySem.Spec PyProof.Rows L2
section
variable {C x y : Addr} {S T : Nat → Bool} {H : Hp} {Q : VK} {W : Bool → Bool → Bool}
theorem r2 (Lx : LimAt C H x S) (Ly : LimAt C H y T) (k : ∀ H' z, Same H H' → LimAt C H' z (fun n => W (S n) (T n)) → Q (.ref z) H') : rOwn2 C (spOp2 C W) E0 (.ref x) (.ref y) H Q := by
  obtain ⟨dx, _, _, _, _, _, _, _, hx, _⟩ := Lx.ex
  obtain ⟨dy, _, _, _, _, _, _, _, hy, _⟩ := Ly.ex
  exact ⟨x, dx, _, y, dy, _, rfl, rfl, hx, hy, x, y, S, T, rfl, Lx, Ly, k⟩
theorem r1 (Lx : LimAt C H x S) (k : ∀ H' z, Same H H' → LimAt C H' z (fun n => !S n) → Q (.ref z) H') : rOwn1 C (spInv C) E0 (.ref x) H Q := by
  obtain ⟨dx, _, _, _, _, _, _, _, hx, _⟩ := Lx.ex
  exact ⟨x, dx, _, rfl, hx, x, S, rfl, Lx, k⟩
theorem rin {n : Nat} (Lx : LimAt C H x S) (hn : n ≤ 100000) (k : Q (.bl (S n)) H) : rOwnIn C (spCont C) E0 (nv n) (.ref x) H Q := by
  obtain ⟨dx, _, _, _, _, _, _, _, hx, _⟩ := Lx.ex
  exact ⟨x, dx, _, rfl, hx, x, n, S, rfl, Lx, hn, _, rfl, k⟩
theorem req (Lx : LimAt C H x S) (Ly : LimAt C H y T) (k : ∀ b : Bool, (b = true ↔ ∀ n, S n = T n) → Q (.bl b) H) : rOwnEq C (spEqL C) E0 (.ref x) (.ref y) H Q := by
  obtain ⟨dx, _, _, _, _, _, _, _, hx, _⟩ := Lx.ex
  obtain ⟨dy, _, _, _, _, _, _, _, hy, _⟩ := Ly.ex
  exact ⟨x, dx, _, y, dy, _, rfl, rfl, hx, hy, x, y, S, T, rfl, Lx, Ly, fun b hb => ⟨b, rfl, k b hb⟩⟩
/-- two sets with equal members are not unlike -/
theorem rne (Lx : LimAt C H x S) (Ly : LimAt C H y T) (e : ∀ n, S n = T n) (k : Q (.bl false) H) : rOwnNe C (spEqL C) E0 (.ref x) (.ref y) H Q := by
  obtain ⟨dx, _, _, _, _, _, _, _, hx, _⟩ := Lx.ex
  obtain ⟨dy, _, _, _, _, _, _, _, hy, _⟩ := Ly.ex
  refine ⟨x, dx, _, y, dy, _, rfl, rfl, hx, hy, x, y, S, T, rfl, Lx, Ly, fun b hb => ⟨b, rfl, ?_⟩⟩
  rw [hb.mpr e]
  exact k
theorem rbool (Lx : LimAt C H x S) (k : ∀ b : Bool, (b = true ↔ ∃ n, S n = true) → Q (.bl b) H) : rOwnBool C (spBool C) E0 [.ref x] H Q := by
  obtain ⟨dx, _, _, _, _, _, _, _, hx, _⟩ := Lx.ex
  exact ⟨x, dx, _, rfl, hx, x, S, rfl, Lx, fun b hb => ⟨b, rfl, k b hb⟩⟩
end
theorem fl_within {p f : Nat} {tr tf tb : Addr} : (flds p tr f tf tb).lookup ("is_within" : Str) = none := fl_no (by decide +kernel) (by decide +kernel) (by decide +kernel) (by decide +kernel) (by decide +kernel)
/-- x.is_within(y), its reading -/
theorem rwith {C x : Addr} {S T : Nat → Bool} {H H2 : Hp} {Q : VK} {y : Addr} (Lx : LimAt C H2 x S) (Ly : LimAt C H2 y T) (k : ∀ (H' : Hp) (b : Bool), Same H2 H' → (b = true ↔ ∀ n, S n = true → T n = true) → Q (.bl b) H') : spWithin C (V.ref x :: ([V.ref y] ++ [])) H2 Q C8.E0 :=
  ⟨x, y, S, T, rfl, Lx, Ly, k⟩
theorem due_and (a b : Bool) : dueB "and" a b = (a && b) := by unfold dueB; rw [if_pos rfl]
theorem due_or (a b : Bool) : dueB "or" a b = (a || b) := by unfold dueB; rw [if_neg (by decide +kernel), if_pos rfl]
theorem due_xor (a b : Bool) : dueB "xor" a b = (a != b) := by unfold dueB; rw [if_neg (by decide +kernel), if_neg (by decide +kernel), if_pos rfl]
theorem due_less (a b : Bool) : dueB "less" a b = (a && !b) := by unfold dueB; rw [if_neg (by decide +kernel), if_neg (by decide +kernel), if_neg (by decide +kernel)]
/-- the class's operators and what the law asks beside -/
structure Ops (P : Program) (w : World) (K : PySem.W.Frag) (mg : Str → Option Value) (base : Heap) (C : Addr) : Prop where
  cl : Cl K C
  self : PySem.W.selfFirst K C = true
  ne : PySem.W.findIn K (.ref C) "__ne__" = some (some (.builtin "object.__ne__"))
  ob : PySem.W.subIn K (.ref C) (.type "object") = some true
  mC : mg "Limits" = some (.ref C)
  and_ : Own P w K mg base 7 C (PySem.dunder Operator.BitAnd.info.2) (spOp2 C fun s t => s && t)
  or_ : Own P w K mg base 7 C (PySem.dunder Operator.BitOr.info.2) (spOp2 C fun s t => s || t)
  sub : Own P w K mg base 7 C (PySem.dunder Operator.Sub.info.2) (spOp2 C fun s t => s && !t)
  xor : Own P w K mg base 7 C (PySem.dunder Operator.BitXor.info.2) (spOp2 C fun s t => s != t)
  inv : Own P w K mg base 6 C "__invert__" (spInv C)
  cont : Own P w K mg base 2 C "__contains__" (spCont C)
  bool : Own P w K mg base 1 C "__bool__" (spBool C)
  eq : Own P w K mg base 1 C "__eq__" (spEqL C)
  within : Own P w K mg base 7 C "is_within" (spWithin C)
/-- a classmethod of C without parameters -/
structure CMe (P : Program) (w : World) (K : PySem.W.Frag) (mg : Str → Option Value) (base : Heap) (k : Nat) (C : Addr) (m : Str) (sp : Sp) : Prop where
  ex : ∃ (mc : Value) (p g : Addr) (fd : FuncData) (ps : List Str), ClX.CRead K C mc ∧ ClX.CMet K C mc m p g ∧ FnOk P w K mg base CX0 k g fd ps sp ∧ Binds K fd ps []
theorem pe_cme {X : Cx} {k j : Nat} {C : Addr} {m : Str} {sp : Sp} {o : Expr} {pos apos : Pos} {ta : TE} {pl : Sem Bool} (c : CMe X.prog X.w X.K X.mg X.base k C m sp) (hr : Room j X.A) (hk : k ≤ j) (he : PE X o ta)
    (ht : eval (.Call (.Attribute o m apos) [] [] pos) X.env = (do
      let ov ← eval o X.env
      standAt apos.atName
      let (f, first) ← holding [ov] (getMethod ov m pl)
      callWith pos f first (backTo pos (starEach [] X.env)) (backToKw pos (keywordEach [] X.env))) := by rfl) :
    PE X (.Call (.Attribute o m apos) [] [] pos) (tCMeth0 C sp E0 ta) := by
  obtain ⟨mc, p, g, fd, ps, h1, h2, F, b⟩ := c.ex
  exact pe_cmeth0 (pl := pl) he h1 h2 F b (hr.mono hk) pass0 ht
def dL (ns : List Nat) : PyData := .list (ns.map fun n : Nat => .int (n : Int))
theorem dL_shaped (ns : List Nat) : SeqAt.shaped (dL ns) = true := by
  show ((dL ns).canLay0 && decide ((dL ns).depth ≤ 64)) = true
  rw [Bool.and_eq_true]
  constructor
  · unfold dL
    simp only [PyData.canLay0]
    exact dN_lay ns
  · refine decide_eq_true ?_
    unfold dL
    simp only [PyData.depth, dN_depth]
    decide
theorem dL_eqv (ns ms : List Nat) : PyData.eqv (dL ns) (dL ms) = decide (ns = ms) := by
  unfold dL
  simp only [PyData.eqv]
  exact dN_eqvAll ns ms
theorem dL_dp {K : PySem.W.Frag} {H : Hp} {l : Addr} {ns : List Nat} (h : H l = some (.lst (ns.map nv))) : Dp K H (.ref l) (dL ns) := .lst (SqL.of h) (dN_dp ns)
/-- below 180 all is seen -/
theorem left_nil {S T : Nat → Bool} (hS : Small S) (hT : Small T) : ((List.range 180).filter fun n => S n && !T n) = [] ↔ ∀ n, S n = true → T n = true := by
  rw [List.filter_eq_nil_iff]
  constructor
  · intro h n hn
    obtain ⟨m, hm, e⟩ := hS.low n
    have := h m (List.mem_range.mpr hm)
    rw [e S hS, e T hT, hn] at this
    cases ht : T n with
    | true => rfl
    | false => rw [ht] at this; exact absurd rfl this
  · intro h n _ hn
    simp only [Bool.and_eq_true, Bool.not_eq_true'] at hn
    rw [h n hn.1] at hn
    cases hn.2

theorem PartsAt.at_refs {H : Hp} {l D : Addr} {S : Nat → Bool} {o : HO} {ls : List Addr} (h : PartsAt H l S) (e : H D = some (.lst (ls.map V.ref))) : PartsAt (upd H D o) l S := by
  obtain ⟨tf, tr, few, rests, f, p, h1, h2, h3, h4⟩ := h.ex
  have n1 : l ≠ D := ne_of h1 e (by
    intro z
    have z := HO.lst.inj z
    match ls, z with
    | [], z => cases z
    | [_], z => cases z
    | _ :: _ :: _, z => cases z)
  exact ⟨tf, tr, few, rests, f, p, (upd_ne n1).trans h1, (upd_ne (ne_of h2 e (by intro z; cases z))).trans h2, (upd_ne (ne_of h3 e (by intro z; cases z))).trans h3, h4⟩
theorem LimAt.at_lst {C : Addr} {H : Hp} {x D : Addr} {S : Nat → Bool} {o : HO} {xs : List V} (h : LimAt C H x S) (e : H D = some (.lst xs)) : LimAt C (upd H D o) x S := by
  obtain ⟨dx, tf, tr, tb, few, rests, f, p, h1, h2, h3, h4⟩ := h.ex
  exact ⟨dx, tf, tr, tb, few, rests, f, p, (upd_ne (ne_of h1 e (by intro z; cases z))).trans h1, (upd_ne (ne_of h2 e (by intro z; cases z))).trans h2, (upd_ne (ne_of h3 e (by intro z; cases z))).trans h3, h4⟩

/-- three sets and the parts of two of them -/
structure R3 (C D l0 l1 l2 a b c : Addr) (S0 S1 S2 : Nat → Bool) (H : Hp) : Prop where
  a : LimAt C H a S0
  b : LimAt C H b S1
  c : LimAt C H c S2
  l : H D = some (.lst [.ref l0, .ref l1, .ref l2])
  p : PartsAt H l0 S0
  q : PartsAt H l1 S1
theorem R3.same {C D l0 l1 l2 a b c : Addr} {S0 S1 S2 : Nat → Bool} {H H' : Hp} (G : R3 C D l0 l1 l2 a b c S0 S1 S2 H) (s : Same H H') : R3 C D l0 l1 l2 a b c S0 S1 S2 H' := ⟨G.a.same s, G.b.same s, G.c.same s, s _ _ G.l, G.p.same s, G.q.same s⟩
theorem within_or (S T : Nat → Bool) : (∀ n, S n = true → T n = true) ↔ ∀ n, (S n || T n) = T n := by
  constructor
  · intro h n
    cases e : S n with
    | true => rw [h n e]; rfl
    | false => rfl
  · intro h n e
    rw [← h n, e]
    rfl
theorem some_within {S T : Nat → Bool} {b c : Bool} (hb : b = true ↔ ∃ n, (S n && !T n) = true) (hc : c = true ↔ ∀ n, S n = true → T n = true) : b = !c := by
  cases c with
  | true =>
    cases b with
    | false => rfl
    | true =>
      obtain ⟨n, hn⟩ := hb.mp rfl
      simp only [Bool.and_eq_true, Bool.not_eq_true'] at hn
      rw [hc.mp rfl n hn.1] at hn
      cases hn.2
  | false =>
    cases b with
    | true => rfl
    | false =>
      refine absurd (hc.mpr fun n hn => ?_) Bool.noConfusion
      cases ht : T n with
      | true => rfl
      | false => exact absurd (hb.mpr ⟨n, by rw [hn, ht]; rfl⟩) Bool.noConfusion

section
variable {P : Program} {w : World} {K : PySem.W.Frag} {mg : Str → Option Value} {base : Heap}
def spRight : Sp := fun vs H Q _ => ∃ u : Addr, vs = [.ref u] ∧ UrnAt H u ∧ ∀ H', Off u H H' → Q (.bl true) H'
abbrev nRight : List Str := ["_law_urn_here", "_law_some", "_law_a", "_law_b", "_law_c", "_law_left", "_law_turn", "_law_parts", "_law_at"]
theorem scRight : FnScope nRight ["_law_urn_here"] (defScope sRight) := ⟨rfl, rfl, rfl, by decide +kernel, rfl, by decide +kernel, by decide +kernel⟩
theorem three {α : Type} {l : List α} (h : l.length = 3) : ∃ a b c, l = [a, b, c] := by
  match l, h with
  | [a, b, c], _ => exact ⟨a, b, c, rfl⟩
theorem ok_right {f C : Addr} {fd : FuncData} (F : Fun K "_law_right" "_law_right" sRight f fd) (B : Bi mg) (O : Ops P w K mg base C) (cDr : C8.Cal P w K mg base 3 "_law_drawn" spDrawn []) (cLL : C8.Cal P w K mg base 6 "_law_limits" (spLLim C) [])
    (cIB : C8.Cal P w K mg base 3 "_law_is_by" (spIsBy C) []) (cLH : C8.Cal P w K mg base 1 "_law_has" spLHas []) (cE : CMe P w K mg base 6 C "every" (spConst C true)) (cN : CMe P w K mg base 6 C "none" (spConst C false)) :
    FnOk P w K mg base CX0 8 f fd ["_law_urn_here"] spRight := by
  refine F.ok scRight (fun vs H Q E h => ?_) (fun cdv A outer s H vs Q E hr h => ?_)
  · obtain ⟨u, rfl, _⟩ := h
    rfl
  · obtain ⟨u, rfl, hu, k⟩ := h
    have mW := O.within.met O.cl.cl
    refine ⟨_, pss_cons (ps_set (i := 1) scRight.nd rfl (Or.inr rfl)
          (pe_lc (own := [("_law_turn", 6)]) (g := gName 6) rfl scRight.nd (pi_range1 (by rfl) B.range (pa_cons pe_int pa_nil)) (blkOk_by (N := nRight) (sc := defScope sRight) (by decide +kernel))
            (fun _ _ _ _ _ => pg_name (i := 6) scRight.nd rfl (Or.inl rfl)) (fun _ _ _ _ _ => pts_nil) (fun _ _ _ _ _ => C8.pe_c cDr hr (by decide) (by rfl) (pa_cons (pv 0) pa_nil))))
      (pss_cons (ps_asg (pe_lc (own := [("_law_parts", 7)]) (g := gName 7) rfl scRight.nd (pi_list (pv 1)) (blkOk_by (N := nRight) (sc := defScope sRight) (by decide +kernel))
            (fun _ _ _ _ _ => pg_name (i := 7) scRight.nd rfl (Or.inl rfl)) (fun _ _ _ _ _ => pts_nil) (fun _ _ _ _ _ => C8.pe_c cLL hr (by decide) (by rfl) (pa_cons (pv 7) pa_nil)))
          (pg_unl rfl (pgs_cons (pg_name (i := 2) scRight.nd rfl (Or.inr rfl)) (pgs_cons (pg_name (i := 3) scRight.nd rfl (Or.inl rfl)) (pgs_cons (pg_name (i := 4) scRight.nd rfl (Or.inl rfl)) pgs_nil)))))
      (pss_cons (ps_if (PW.pt (pw_or (pt_not (pt_val (C8.pe_c cIB hr (by decide) (by rfl) (pa_cons (pe_op (opb O.and_ O.self hr (by decide)) (pv 2) (pv 3)) (pa_cons (pv 1) (pa_cons pe_str pa_nil))))))
          (pw_or1 (pt_not (pt_val (C8.pe_c cIB hr (by decide) (by rfl) (pa_cons (pe_op (opb O.or_ O.self hr (by decide)) (pv 2) (pv 3)) (pa_cons (pv 1) (pa_cons pe_str pa_nil))))))))) (pss_one (ps_ret pe_bl)) pss_nil)
      (pss_cons (ps_if (PW.pt (pw_or (pt_not (pt_val (C8.pe_c cIB hr (by decide) (by rfl) (pa_cons (pe_op (opb O.sub O.self hr (by decide)) (pv 2) (pv 3)) (pa_cons (pv 1) (pa_cons pe_str pa_nil))))))
          (pw_or1 (pt_not (pt_val (C8.pe_c cIB hr (by decide) (by rfl) (pa_cons (pe_op (opb O.xor O.self hr (by decide)) (pv 2) (pv 3)) (pa_cons (pv 1) (pa_cons pe_str pa_nil))))))))) (pss_one (ps_ret pe_bl)) pss_nil)
      (pss_cons (ps_if (PW.pt (pw_or (pt_cmpR (op_neD hr.units)
            (pe_lc (own := [("_law_at", 8)]) (g := gName 8) rfl scRight.nd (pi_range1 (by rfl) B.range (pa_cons pe_int pa_nil)) (blkOk_by (N := nRight) (sc := defScope sRight) (by decide +kernel))
              (fun _ _ _ _ _ => pg_name (i := 8) scRight.nd rfl (Or.inl rfl)) (fun _ _ _ _ _ => pts_one (pt_cmpR op_eq (pe_cmpR (opin O.cont hr (by decide)) (pv 8) (pe_un (opu O.inv hr (by decide)) (pv 2)) (by rfl)) (pe_cmpR (opin O.cont hr (by decide)) (pv 8) (pv 2) (by rfl)) (nomark _))) (fun _ _ _ _ _ => pv 8))
            (pe_lst pa_nil) (nomark _))
          (pw_or1 (pt_cmpR (opne O.eq O.ne O.ob hr (by decide)) (pe_un (opu O.inv hr (by decide)) (pe_un (opu O.inv hr (by decide)) (pv 2))) (pv 2) (nomark _))))) (pss_one (ps_ret pe_bl)) pss_nil)
      (pss_cons (ps_if (PW.pt (pw_or (pt_cmpR (opne O.eq O.ne O.ob hr (by decide)) (pe_op (opb O.sub O.self hr (by decide)) (pv 2) (pv 3)) (pe_op (opb O.and_ O.self hr (by decide)) (pv 2) (pe_un (opu O.inv hr (by decide)) (pv 3))) (nomark _))
          (pw_or (pt_cmpR (opne O.eq O.ne O.ob hr (by decide)) (pe_op (opb O.xor O.self hr (by decide)) (pv 2) (pv 3)) (pe_op (opb O.sub O.self hr (by decide)) (pe_op (opb O.or_ O.self hr (by decide)) (pv 2) (pv 3)) (pe_op (opb O.and_ O.self hr (by decide)) (pv 2) (pv 3))) (nomark _))
          (pw_or1 (pt_cmpR (opne O.eq O.ne O.ob hr (by decide)) (pe_un (opu O.inv hr (by decide)) (pe_op (opb O.or_ O.self hr (by decide)) (pv 2) (pv 3))) (pe_op (opb O.and_ O.self hr (by decide)) (pe_un (opu O.inv hr (by decide)) (pv 2)) (pe_un (opu O.inv hr (by decide)) (pv 3))) (nomark _)))))) (pss_one (ps_ret pe_bl)) pss_nil)
      (pss_cons (ps_if (PW.pt (pw_or (pt_cmpR (opne O.eq O.ne O.ob hr (by decide)) (pe_op (opb O.and_ O.self hr (by decide)) (pv 2) (pe_op (opb O.or_ O.self hr (by decide)) (pv 3) (pv 4))) (pe_op (opb O.or_ O.self hr (by decide)) (pe_op (opb O.and_ O.self hr (by decide)) (pv 2) (pv 3)) (pe_op (opb O.and_ O.self hr (by decide)) (pv 2) (pv 4))) (nomark _))
          (pw_or1 (pt_cmpR (opne O.eq O.ne O.ob hr (by decide)) (pe_op (opb O.xor O.self hr (by decide)) (pe_op (opb O.xor O.self hr (by decide)) (pv 2) (pv 3)) (pv 4)) (pe_op (opb O.xor O.self hr (by decide)) (pv 2) (pe_op (opb O.xor O.self hr (by decide)) (pv 3) (pv 4))) (nomark _))))) (pss_one (ps_ret pe_bl)) pss_nil)
      (pss_cons (ps_setLc (i := 5) (own := [("_law_at", 8)]) (g := gName 8)
          (tt := tAnd (tB (tCall spLHas [] C8.E0 (tCons (tOp (rIxL K) (tVar 1) (tC (.int 0))) (tCons (tVar 8) tNil)))) (tNot (tB (tCall spLHas [] C8.E0 (tCons (tOp (rIxL K) (tVar 1) (tC (.int 1))) (tCons (tVar 8) tNil))))))
          rfl scRight.nd rfl rfl (sw_true rfl rfl rfl (by decide +kernel)) (pi_range1 (by rfl) B.range (pa_cons pe_int pa_nil)) (blkOk_by (N := nRight) (sc := defScope sRight) (by decide +kernel))
          (fun _ _ _ _ _ => pg_name (i := 8) scRight.nd rfl (Or.inl rfl))
          (fun _ _ _ _ _ => pts_one (PW.pt (pw_and (pt_val (C8.pe_c cLH hr (by decide) (by rfl) (pa_cons (pe_ix ix_list (pv 1) pe_int (fun _ _ => rfl)) (pa_cons (pv 8) pa_nil)))) (pw_and1 (pt_not (pt_val (C8.pe_c cLH hr (by decide) (by rfl) (pa_cons (pe_ix ix_list (pv 1) pe_int (fun _ _ => rfl)) (pa_cons (pv 8) pa_nil)))))))))
          (fun _ _ _ _ _ => pv 8))
      (pss_cons (ps_if (PW.pt (pw_or (pt_cmpR op_ne (C8.pe_mt mW hr (by decide) (pv 2) (pa_cons (pv 3) pa_nil)) (pe_cmpR (op_eqD hr.units) (pv 5) (pe_lst pa_nil) (nomark _)) (nomark _))
          (pw_or (pt_cmpR op_ne (C8.pe_mt mW hr (by decide) (pv 2) (pa_cons (pv 3) pa_nil)) (pe_cmpR (opeq O.eq hr (by decide)) (pe_op (opb O.or_ O.self hr (by decide)) (pv 2) (pv 3)) (pv 3) (nomark _)) (nomark _))
          (pw_or1 (pt_not (pt_val (C8.pe_mt mW hr (by decide) (pe_op (opb O.and_ O.self hr (by decide)) (pv 2) (pv 3)) (pa_cons (pv 2) pa_nil)))))))) (pss_one (ps_ret pe_bl)) pss_nil)
      (pss_one (ps_ret (pe_and (C8.pe_mt mW hr (by decide) (pv 2) (pa_cons (pe_cme cE hr (by decide) (pe_glob (v := .ref C) (by rfl) O.mC rfl)) pa_nil))
        (pe_and (C8.pe_mt mW hr (by decide) (pe_cme cN hr (by decide) (pe_glob (v := .ref C) (by rfl) O.mC rfl)) (pa_cons (pv 2) pa_nil))
        (pe_one (pe_cmpR op_eq (pe_callTy (opbool O.bool hr (by decide)) (by rfl) B.bool (by decide +kernel) (pa_cons (pe_op (opb O.sub O.self hr (by decide)) (pv 2) (pv 3)) pa_nil)) (pe_not (C8.pe_mt mW hr (by decide) (pv 2) (pa_cons (pv 3) pa_nil))) (nomark _))))))))))))))), ?_⟩
    have nD : ∀ {H1 : Hp} {D : Addr}, UrnAt H1 u → H1 D = none → D ≠ u := fun {H1 D} ⟨g, d, c, e⟩ n => (ne_of_none e n).symm
    refine ⟨3, rfl, by decide, by decide, fun D hD => ?_⟩
    have nDu := nD hu hD
    refine lc_range (lo := 0) (n := 3) (fun i H1 => Off u H H1 ∧ UrnAt H1 u ∧ ∃ ls : List Addr, ls.length = i ∧ H1 D = some (.lst (ls.map V.ref)) ∧ ∀ l ∈ ls, ∃ S, PartsAt H1 l S) ⟨Off.of (same_upd hD), hu.same (same_upd hD), [], rfl, upd_same, by simp⟩ ?_ ?_
    · rintro i H1 hi ⟨o1, u1, ls, hls, e1, pp⟩
      refine ⟨rfl, _, rfl, u, rfl, u1, fun H2 l S u2 o2 P2 => ?_⟩
      have e2 := o2 _ _ e1 nDu
      have o02 := o1.trans o2
      refine ⟨_, e2, small1000 (by rw [List.length_map]; omega), fun a x e ne => ?_, ?_, ls ++ [l], by rw [List.length_append, hls]; rfl, by rw [upd_same, List.map_append]; rfl, fun z hz => ?_⟩
      · rw [upd_ne (ne_of_none e hD)]
        exact o02 a x e ne
      · obtain ⟨g, d, c, hu2⟩ := u2
        exact ⟨g, d, c, (upd_ne nDu.symm).trans hu2⟩
      · rcases List.mem_append.mp hz with h | h
        · obtain ⟨S', p'⟩ := pp z h
          exact ⟨S', (p'.off u1 o2).at_refs e2⟩
        · rw [List.mem_singleton.mp h]
          exact ⟨S, P2.at_refs e2⟩
    rintro H1 ⟨o1, u1, ls, hls, e1, pp⟩
    obtain ⟨l0, l1, l2, rfl⟩ := three hls
    obtain ⟨S0, P0⟩ := pp l0 (by simp)
    obtain ⟨S1, P1⟩ := pp l1 (by simp)
    obtain ⟨S2, P2⟩ := pp l2 (by simp)
    refine ⟨_, rfl, D, rfl, ⟨_, SqL.of e1⟩, fun D2 hD2 => ?_⟩
    refine lc_list (K := K) (a := D) (xs := [.ref l0, .ref l1, .ref l2]) (fun i H2 => Same H1 H2 ∧ ∃ zs : List Addr, zs.length = i ∧ H2 D2 = some (.lst (zs.map V.ref)) ∧ ∀ j z, zs[j]? = some z → ∃ S, [S0, S1, S2][j]? = some S ∧ LimAt C H2 z S) ⟨same_upd hD2, [], rfl, upd_same, fun j z h => absurd (show ([] : List Addr)[j]? = some z from h) (by rw [List.getElem?_nil]; exact nofun)⟩ (fun i H2 _ h => Same.seq h.1 (SqL.of e1)) ?_ ?_
    · rintro i x H2 hx ⟨s2, zs, hzs, e2, pz⟩
      have : ∃ l S, x = .ref l ∧ [S0, S1, S2][i]? = some S ∧ PartsAt H1 l S := by
        match i, hx with
        | 0, hx => exact ⟨l0, S0, (Option.some.inj hx).symm, rfl, P0⟩
        | 1, hx => exact ⟨l1, S1, (Option.some.inj hx).symm, rfl, P1⟩
        | 2, hx => exact ⟨l2, S2, (Option.some.inj hx).symm, rfl, P2⟩
      obtain ⟨l, S, rfl, hS, PS⟩ := this
      have hi : i < 3 := by
        have := (List.getElem?_eq_some_iff.mp hS).1
        exact this
      refine ⟨rfl, _, rfl, l, S, rfl, PS.same s2, fun H3 z s3 L3 => ?_⟩
      have e3 := s3 _ _ e2
      refine ⟨_, e3, small1000 (by rw [List.length_map]; omega), L2.Same.put (s2.trans s3) hD2, zs ++ [z], by rw [List.length_append, hzs]; rfl, by rw [upd_same, List.map_append]; rfl, fun j y hy => ?_⟩
      rcases Nat.lt_or_ge j zs.length with h | h
      · rw [List.getElem?_append_left h] at hy
        obtain ⟨S', h1, h2⟩ := pz j y hy
        exact ⟨S', h1, (h2.same s3).at_lst e3⟩
      · rw [List.getElem?_append_right h] at hy
        have : j = zs.length := by
          have := (List.getElem?_eq_some_iff.mp hy).1
          rw [List.length_singleton] at this
          omega
        subst this
        rw [Nat.sub_self] at hy
        obtain rfl := Option.some.inj hy
        rw [hzs]
        exact ⟨S, hS, L3.at_lst e3⟩
    rintro H2 ⟨s2, zs, hzs, e2, pz⟩
    obtain ⟨a, b, c, rfl⟩ := three hzs
    obtain ⟨_, h1, La⟩ := pz 0 a rfl
    obtain rfl := Option.some.inj h1
    obtain ⟨_, h1, Lb⟩ := pz 1 b rfl
    obtain rfl := Option.some.inj h1
    obtain ⟨_, h1, Lc⟩ := pz 2 c rfl
    obtain rfl := Option.some.inj h1
    have G : R3 C D l0 l1 l2 a b c S0 S1 S2 H2 := ⟨La, Lb, Lc, s2 _ _ e1, P0.same s2, P1.same s2⟩
    have kk : ∀ H', Same H2 H' → Q (.bl true) H' := fun H' s' => k H' (o1.trans (Off.of (s2.trans s')))
    clear k pz hzs pp hls P0 P1 P2 o1 u1 s2 La Lb Lc
    refine ⟨D2, _, rfl, SqL.of e2, rfl, _, _, rfl, _, _, rfl, _, _, rfl, rfl, ?_⟩
    clear e1 e2
    -- & and |
    refine ⟨_, rfl, _, rfl, r2 G.a G.b fun H3 z s3 Lz => ⟨_, rfl, z, D, l0, l1, l2, _, _, S0, S1, rfl, Lz, (G.same s3).l, (G.same s3).p, (G.same s3).q, fun n => (due_and _ _).symm, true, rfl, iteF ?_⟩⟩
    have G := G.same s3
    refine ⟨_, rfl, _, rfl, r2 G.a G.b fun H4 z s4 Lz => ⟨_, rfl, z, D, l0, l1, l2, _, _, S0, S1, rfl, Lz, (G.same s4).l, (G.same s4).p, (G.same s4).q, fun n => (due_or _ _).symm, true, rfl, iteF ?_⟩⟩
    have G := G.same s4
    have kk : ∀ H', Same H4 H' → Q (.bl true) H' := fun H' s' => kk H' (s3.trans (s4.trans s'))
    -- - and ^
    refine ⟨_, rfl, _, rfl, r2 G.a G.b fun H5 z s5 Lz => ⟨_, rfl, z, D, l0, l1, l2, _, _, S0, S1, rfl, Lz, (G.same s5).l, (G.same s5).p, (G.same s5).q, fun n => (due_less _ _).symm, true, rfl, iteF ?_⟩⟩
    have G := G.same s5
    refine ⟨_, rfl, _, rfl, r2 G.a G.b fun H6 z s6 Lz => ⟨_, rfl, z, D, l0, l1, l2, _, _, S0, S1, rfl, Lz, (G.same s6).l, (G.same s6).p, (G.same s6).q, fun n => (due_xor _ _).symm, true, rfl, iteF ?_⟩⟩
    have G := G.same s6
    have kk : ∀ H', Same H6 H' → Q (.bl true) H' := fun H' s' => kk H' (s5.trans (s6.trans s'))
    clear s3 s4 s5 s6
    -- ~ and ~~
    refine ⟨180, rfl, by decide, by decide, fun D7 hD7 => ?_⟩
    refine lc_filtR (N := 180) 8 (fun _ => false) id (by show 8 < 9; decide) hD7 (by omega) (fun H1 n R hn s1 q => ?_) (fun H1 n R hn s1 q => ⟨_, rfl, q H1 (Same.refl _)⟩) (fun H7 s7 e7 => ?_)
    · refine ⟨_, rfl, _, rfl, r1 (G.same s1).a fun H3 z s3 Lz => rin Lz (by omega) ⟨_, rfl, _, rfl, rin ((G.same s1).same s3).a (by omega) ⟨rfl, _, rfl, ?_⟩⟩⟩
      have e : decide (V.bl (!S0 n) = V.bl (S0 n)) = false := by
        cases S0 n <;> rfl
      show R (decide (V.bl (!S0 n) = V.bl (S0 n))) H3
      rw [e]
      exact q H3 s3
    have e0 : H7 D7 = some (.lst (([] : List Nat).map nv)) := by
      rw [e7, show ((List.range 180).filter fun _ => false) = [] from List.filter_eq_nil_iff.mpr fun _ _ h => Bool.noConfusion h]
      rfl
    refine ⟨Nat.zero_le _, fun l8 nl8 => ⟨dL [], dL [], dL_dp ((same_upd nl8) _ _ e0), dL_dp (ns := []) upd_same, dL_shaped _, dL_shaped _, _, rfl, ?_⟩⟩
    rw [dL_eqv]
    refine iteF ?_
    have s8 := s7.trans (same_upd (o := .lst []) nl8)
    show (tTest _) _ (upd H7 l8 (.lst [])) _
    generalize upd H7 l8 (.lst []) = H8 at s8
    have G := G.same s8
    have kk : ∀ H', Same H8 H' → Q (.bl true) H' := fun H' s' => kk H' (s8.trans s')
    clear s7 e7 e0 nl8 s8
    refine ⟨_, rfl, r1 G.a fun H9 z s9 Lz => r1 Lz fun H10 z2 s10 Lz2 => ⟨_, rfl, rne Lz2 ((G.same s9).same s10).a (fun n => Bool.not_not _) ⟨_, rfl, iteF ?_⟩⟩⟩
    have G := (G.same s9).same s10
    have kk : ∀ H', Same H10 H' → Q (.bl true) H' := fun H' s' => kk H' (s9.trans (s10.trans s'))
    clear s9 s10 Lz Lz2
    -- four laws of sets
    refine ⟨_, rfl, _, rfl, r2 G.a G.b fun H1 x1 s1 X1 => ⟨_, rfl, _, rfl, r1 (G.same s1).b fun H2 x2 s2 X2 => r2 ((G.same s1).same s2).a X2 fun H3 x3 s3 X3 => rne (X1.same (s2.trans s3)) X3 (fun n => rfl) ⟨_, rfl, iteF ?_⟩⟩⟩
    have G := G.same (s1.trans (s2.trans s3))
    have kk : ∀ H', Same H3 H' → Q (.bl true) H' := fun H' s' => kk H' (s1.trans (s2.trans (s3.trans s')))
    clear X1 X2 X3 s1 s2 s3
    refine ⟨_, rfl, _, rfl, r2 G.a G.b fun H1 x1 s1 X1 => ⟨_, rfl, _, rfl, r2 (G.same s1).a (G.same s1).b fun H2 x2 s2 X2 => ⟨_, rfl, _, rfl, r2 (G.same (s1.trans s2)).a (G.same (s1.trans s2)).b fun H4 x3 s3 X3 => r2 (X2.same s3) X3 fun H5 x4 s4 X4 => rne (X1.same (s2.trans (s3.trans s4))) X4 (fun n => by cases S0 n <;> cases S1 n <;> rfl) ⟨_, rfl, iteF ?_⟩⟩⟩⟩
    have G := G.same (s1.trans (s2.trans (s3.trans s4)))
    have kk : ∀ H', Same H5 H' → Q (.bl true) H' := fun H' s' => kk H' (s1.trans (s2.trans (s3.trans (s4.trans s'))))
    clear X1 X2 X3 X4 s1 s2 s3 s4
    refine ⟨_, rfl, _, rfl, r2 G.a G.b fun H1 x1 s1 X1 => r1 X1 fun H2 x2 s2 X2 => ⟨_, rfl, r1 (G.same (s1.trans s2)).a fun H3 x3 s3 X3 => ⟨_, rfl, r1 (G.same (s1.trans (s2.trans s3))).b fun H4 x4 s4 X4 => r2 (X3.same s4) X4 fun H6 x5 s5 X5 => rne (X2.same (s3.trans (s4.trans s5))) X5 (fun n => by cases S0 n <;> cases S1 n <;> rfl) ⟨_, rfl, iteF ?_⟩⟩⟩⟩
    have G := G.same (s1.trans (s2.trans (s3.trans (s4.trans s5))))
    have kk : ∀ H', Same H6 H' → Q (.bl true) H' := fun H' s' => kk H' (s1.trans (s2.trans (s3.trans (s4.trans (s5.trans s')))))
    clear X1 X2 X3 X4 X5 s1 s2 s3 s4 s5
    refine ⟨_, rfl, _, rfl, _, rfl, r2 G.b G.c fun H1 x1 s1 X1 => r2 (G.same s1).a X1 fun H2 x2 s2 X2 => ⟨_, rfl, _, rfl, r2 (G.same (s1.trans s2)).a (G.same (s1.trans s2)).b fun H3 x3 s3 X3 => ⟨_, rfl, _, rfl, r2 (G.same (s1.trans (s2.trans s3))).a (G.same (s1.trans (s2.trans s3))).c fun H4 x4 s4 X4 => r2 (X3.same s4) X4 fun H7 x5 s5 X5 => rne (X2.same (s3.trans (s4.trans s5))) X5 (fun n => by cases S0 n <;> cases S1 n <;> cases S2 n <;> rfl) ⟨_, rfl, iteF ?_⟩⟩⟩⟩
    have G := G.same (s1.trans (s2.trans (s3.trans (s4.trans s5))))
    have kk : ∀ H', Same H7 H' → Q (.bl true) H' := fun H' s' => kk H' (s1.trans (s2.trans (s3.trans (s4.trans (s5.trans s')))))
    clear X1 X2 X3 X4 X5 s1 s2 s3 s4 s5
    refine ⟨_, rfl, _, rfl, r2 G.a G.b fun H1 x1 s1 X1 => ⟨_, rfl, r2 X1 (G.same s1).c fun H2 x2 s2 X2 => ⟨_, rfl, _, rfl, _, rfl, r2 (G.same (s1.trans s2)).b (G.same (s1.trans s2)).c fun H3 x3 s3 X3 => r2 (G.same (s1.trans (s2.trans s3))).a X3 fun H8 x4 s4 X4 => rne (X2.same (s3.trans s4)) X4 (fun n => by cases S0 n <;> cases S1 n <;> cases S2 n <;> rfl) ⟨_, rfl, iteF ?_⟩⟩⟩⟩
    have G := G.same (s1.trans (s2.trans (s3.trans s4)))
    have kk : ∀ H', Same H8 H' → Q (.bl true) H' := fun H' s' => kk H' (s1.trans (s2.trans (s3.trans (s4.trans s'))))
    clear X1 X2 X3 X4 s1 s2 s3 s4
    -- what is left over
    refine ⟨180, rfl, by decide, by decide, fun D9 hD9 => ?_⟩
    refine lc_filtR (N := 180) 8 (fun n => S0 n && !S1 n) id (by show 8 < 9; decide) hD9 (by omega) (fun H1 n R hn s1 q => ?_) (fun H1 n R hn s1 q => ⟨_, rfl, q H1 (Same.refl _)⟩) (fun H9 s9 e9 => ?_)
    · have G := G.same s1
      refine ⟨_, rfl, D, _, 0, _, rfl, rfl, SqL.of G.l, atI_nat (j := 0) rfl, _, rfl, l0, n, S0, rfl, G.p, _, rfl, ite2 (fun h => ?_) (fun h => ?_)⟩
      · refine ⟨_, rfl, D, _, 1, _, rfl, rfl, SqL.of G.l, atI_nat (j := 1) rfl, _, rfl, l1, n, S1, rfl, G.q, _, rfl, ?_⟩
        have := q H1 (Same.refl _)
        rw [h, Bool.true_and] at this
        exact this
      · have := q H1 (Same.refl _)
        rw [Bool.eq_false_iff.mpr h, Bool.false_and] at this
        exact this
    rw [List.map_id] at e9
    have G := G.same s9
    have kk : ∀ H', Same H9 H' → Q (.bl true) H' := fun H' s' => kk H' (s9.trans s')
    have smA := G.a.small
    have smB := G.b.small
    -- is_within
    obtain ⟨da, _, _, _, _, _, _, _, ha, _⟩ := G.a.ex
    refine ⟨_, rfl, a, da, _, rfl, ha, fl_within, _, rfl, a, b, S0, S1, rfl, G.a, G.b, fun H1 b1 s1 hb1 => ⟨_, rfl, Nat.zero_le _, fun l nl => ⟨dL _, dL [], dL_dp ((same_upd nl) _ _ (s1 _ _ e9)), dL_dp (ns := []) upd_same, dL_shaped _, dL_shaped _, rfl, _, rfl, ?_⟩⟩⟩
    have sl := s1.trans (same_upd (o := .lst []) nl)
    rw [dL_eqv]
    refine iteNS (congrArg V.bl (Bool.eq_iff_iff.mpr (hb1.trans ((left_nil smA smB).symm.trans decide_eq_true_iff.symm)))) ?_
    show (tOr _ _) _ (upd H1 l (.lst [])) _
    generalize upd H1 l (.lst []) = H10 at sl
    have G := G.same sl
    have kk : ∀ H', Same H10 H' → Q (.bl true) H' := fun H' s' => kk H' (sl.trans s')
    have ha := sl _ _ ha
    clear s1 nl hb1 sl e9
    refine ⟨_, rfl, a, da, _, rfl, ha, fl_within, _, rfl, a, b, S0, S1, rfl, G.a, G.b, fun H1 b1 s1 hb1 => ⟨_, rfl, _, rfl, r2 (G.same s1).a (G.same s1).b fun H2 x2 s2 X2 => ⟨_, rfl, req X2 (G.same (s1.trans s2)).b fun b2 hb2 => ⟨rfl, _, rfl, iteNS (congrArg V.bl (Bool.eq_iff_iff.mpr (hb1.trans ((within_or S0 S1).trans hb2.symm)))) ?_⟩⟩⟩⟩
    have sl := s1.trans s2
    have G := G.same sl
    have kk : ∀ H', Same H2 H' → Q (.bl true) H' := fun H' s' => kk H' (sl.trans s')
    have ha := sl _ _ ha
    clear s1 s2 hb1 hb2 X2 sl
    refine ⟨_, rfl, _, rfl, r2 G.a G.b fun H1 z s1 Lz => ?_⟩
    obtain ⟨dz, _, _, _, _, _, _, _, hz, _⟩ := Lz.ex
    have G := G.same s1
    refine ⟨z, dz, _, rfl, hz, fl_within, _, rfl, z, a, _, S0, rfl, Lz, G.a, fun H3 b1 s3 hb1 => ⟨b1, rfl, ?_⟩⟩
    rw [hb1.mpr fun n hn => by
      rw [Bool.and_eq_true] at hn
      exact hn.1]
    refine iteF ?_
    have G := G.same s3
    have kk : ∀ H', Same H3 H' → Q (.bl true) H' := fun H' s' => kk H' (s1.trans (s3.trans s'))
    have ha := s3 _ _ (s1 _ _ ha)
    clear s1 s3 hb1 hz Lz
    -- the last
    refine ⟨_, rfl, a, da, _, rfl, ha, fl_within, rfl, rfl, fun H1 z s1 Lz => ⟨a, z, S0, _, rfl, (G.same s1).a, Lz, fun H4 b1 s4 hb1 => ⟨b1, rfl, ?_⟩⟩⟩
    rw [hb1.mpr fun n _ => rfl]
    refine iteT ?_
    have G := G.same (s1.trans s4)
    have kk : ∀ H', Same H4 H' → Q (.bl true) H' := fun H' s' => kk H' (s1.trans (s4.trans s'))
    have ha := s4 _ _ (s1 _ _ ha)
    clear s1 s4 hb1 Lz
    refine ⟨rfl, rfl, fun H1 z s1 Lz => ?_⟩
    obtain ⟨dz, _, _, _, _, _, _, _, hz, _⟩ := Lz.ex
    refine ⟨z, dz, _, rfl, hz, fl_within, _, rfl, z, a, _, S0, rfl, Lz, (G.same s1).a, fun H5 b1 s5 hb1 => ⟨b1, rfl, ?_⟩⟩
    rw [hb1.mpr fun n hn => Bool.noConfusion hn]
    refine iteT ?_
    have G := G.same (s1.trans s5)
    have kk : ∀ H', Same H5 H' → Q (.bl true) H' := fun H' s' => kk H' (s1.trans (s5.trans s'))
    have ha := s5 _ _ (s1 _ _ ha)
    clear s1 s5 hb1 hz Lz
    refine ⟨_, rfl, _, rfl, r2 G.a G.b fun H1 z s1 Lz => ?_⟩
    obtain ⟨dz, _, _, _, _, _, _, _, hz, _⟩ := Lz.ex
    refine ⟨z, dz, _, rfl, hz, z, _, rfl, Lz, fun b1 hb1 => ⟨b1, rfl, ?_⟩⟩
    refine ⟨_, rfl, a, da, _, rfl, s1 _ _ ha, fl_within, _, rfl, a, b, S0, S1, rfl, (G.same s1).a, (G.same s1).b, fun H6 b2 s6 hb2 => ⟨b2, rfl, rfl, q_bl (kk H6 (s1.trans s6)) ?_⟩⟩
    exact decide_eq_true (congrArg V.bl (some_within hb1 hb2))
end
end K03


-- text K03I
set_option Elab.async false
set_option linter.all false
set_option maxRecDepth 100000
set_option maxHeartbeats 8000000
/-! The law itself. -/
namespace K03
open PySem PySem.Spec PyProof.Rows L2
/-! ### the two sets that the text names -/
abbrev mO : Nat → Bool := mem [] 0 2 [1]
abbrev mT : Nat → Bool := mem [2] 5 3 [0]
def Per6 (A : Nat → Bool) : Prop := ∀ n m, 5 ≤ n → 5 ≤ m → n % 6 = m % 6 → A n = A m
theorem per6 {A B : Nat → Bool} (hA : Per6 A) (hB : Per6 B) (h : ∀ n, n < 11 → A n = B n) (n : Nat) : A n = B n := by
  rcases Nat.lt_or_ge n 11 with l | g
  · exact h n l
  · have e : n % 6 = (5 + (n - 5) % 6) % 6 := by omega
    rw [hA n (5 + (n - 5) % 6) (by omega) (by omega) e, hB n (5 + (n - 5) % 6) (by omega) (by omega) e]
    exact h _ (by omega)
theorem per_mem {few rests : List Nat} {f p : Nat} (hf : f ≤ 5) (hp : p ∣ 6) : Per6 (mem few f p rests) := fun n m h1 h2 e => mem_round (Nat.le_trans hf h1) (Nat.le_trans hf h2) hp e
theorem per2 {A B : Nat → Bool} (W : Bool → Bool → Bool) (hA : Per6 A) (hB : Per6 B) : Per6 fun n => W (A n) (B n) := fun n m h1 h2 e => by
  dsimp only
  rw [hA n m h1 h2 e, hB n m h1 h2 e]
theorem pO : Per6 mO := per_mem (by decide) (by decide)
theorem pT : Per6 mT := per_mem (by decide) (by decide)
theorem told0 : ∀ n, (mO n && mT n) = mem [] 5 6 [3] n := per6 (per2 _ pO pT) (per_mem (by decide) (by decide)) (by decide +kernel)
theorem told1 : ∀ n, (mO n || mT n) = mem [1, 2, 3] 4 6 [0, 1, 3, 5] n := per6 (per2 _ pO pT) (per_mem (by decide) (by decide)) (by decide +kernel)
theorem told2 : ∀ n, (mO n && !mT n) = mem [1, 3] 4 6 [1, 5] n := per6 (per2 (fun s t => s && !t) pO pT) (per_mem (by decide) (by decide)) (by decide +kernel)
theorem told3 : ∀ n, (mO n != mT n) = mem [1, 2, 3] 4 6 [0, 1, 5] n := per6 (per2 _ pO pT) (per_mem (by decide) (by decide)) (by decide +kernel)
theorem told4 : ∀ n, (!mT n) = mem [0, 1, 3, 4] 5 3 [1, 2] n := per6 (per2 (fun _ t => !t) pO pT) (per_mem (by decide) (by decide)) (by decide +kernel)
theorem not_odd : ¬ ∀ n, mO n = true → mT n = true := fun h => absurd (h 1 (by decide +kernel)) (by decide +kernel)
/-! ### == of lists of sets -/
def eqLim (C : Addr) : Addr → Addr → Hp → Prop := fun a b H => ∃ S T, LimAt C H a S ∧ LimAt C H b T ∧ ∀ n, S n = T n
theorem mon_lim {C : Addr} : Mon (DIns C (eqLim C)) := mon_ins fun a b H H' e ⟨S, T, h1, h2, h3⟩ => ⟨S, T, h1.same e, h2.same e, h3⟩
theorem dins {C a b : Addr} {S T : Nat → Bool} {H : Hp} (La : LimAt C H a S) (Lb : LimAt C H b T) (e : ∀ n, S n = T n) : DIns C (eqLim C) (.ref a) (.ref b) H := by
  obtain ⟨da, _, _, _, _, _, _, _, ha, _⟩ := La.ex
  obtain ⟨db, _, _, _, _, _, _, _, hb, _⟩ := Lb.ex
  exact ⟨a, b, da, db, _, _, rfl, rfl, ha, hb, S, T, La, Lb, e⟩
theorem opeqL {X : Cx} {k j : Nat} {C : Addr} (o : Own X.prog X.w X.K X.mg X.base k C "__eq__" (spEqL C)) (hr : Room j X.A) (hk : k + 1 ≤ j) : OpR X (compareOp .Eq) (rEqG (DList (DIns C (eqLim C)))) := by
  obtain ⟨g, fd, ps, h1, h2, _, F, b⟩ := o.ex
  have F' : FnOk X.prog X.w X.K X.mg X.base CX0 k g fd ps (spEq (eqLim C)) := F.imp fun vs H Q E h => by
    obtain ⟨x, y, rfl, ⟨S, T, Lx, Ly, e⟩, q⟩ := h
    refine ⟨x, y, S, T, rfl, Lx, Ly, fun b hb => ?_⟩
    rw [hb.mpr e]
    exact q H Ext.rfl'
  exact op_eqG (rcG_list mon_lim (eqG_ins (E := E0) F' h1 h2 b pass0)) (hr.mono hk)
theorem same_made {C : Addr} {H : Hp} {x dx : Addr} (nx : H x = none) (nd : H dx = none) : Same H (upd (upd H dx (.own x)) x (.ins C dx [])) := fun b o e => by
  rw [upd_ne (ne_of_none e nx), upd_ne (ne_of_none e nd)]
  exact e
section
variable {P : Program} {w : World} {K : PySem.W.Frag} {mg : Str → Option Value} {base : Heap}
def spLaw (K : PySem.W.Frag) : Sp := fun vs H Q _ => ∃ (a : Addr) (ns : List Int), vs = [.ref a] ∧ SqL K H a (ns.map V.int) ∧ ns.length ≤ 63 ∧ ∀ H', Q (.bl true) H'
abbrev nLaw : List Str := ["_law_script", "_law_spot", "_law_odd", "_law_three", "_law_told", "_law_due_here"]
theorem scLaw : FnScope nLaw ["_law_script"] (defScope sLaw) := ⟨rfl, rfl, rfl, by decide +kernel, rfl, by decide +kernel, by decide +kernel⟩
theorem ok_law {f C : Addr} {fd : FuncData} (F : Fun K "law" "law" sLaw f fd) (B : Bi mg) (O : Ops P w K mg base C) (cU : C8.Cal P w K mg base 1 "_law_urn" (spUrn K) []) (cR : C8.Cal P w K mg base 8 "_law_right" spRight []) (cM : C8.Mak P w K mg base 4 "Limits" C (spInit C) []) :
    FnOk P w K mg base CX0 9 f fd ["_law_script"] (spLaw K) := by
  refine F.ok scLaw (fun vs H Q E h => ?_) (fun cdv A outer s H vs Q E hr h => ?_)
  · obtain ⟨a, ns, rfl, _⟩ := h
    rfl
  · obtain ⟨a, ns, rfl, hS, hn, k⟩ := h
    have mW := O.within.met O.cl.cl
    refine ⟨_, pss_cons (ps_for PassesOwn.never rfl (pi_range1 (by rfl) B.range (pa_cons (pe_callB (call_max2 rfl) (by rfl) B.max (by decide +kernel) (pa_cons pe_int (pa_cons (pe_callB (call_min2 rfl) (by rfl) B.min (by decide +kernel) (pa_cons pe_int (pa_cons (pe_callB call_len_seq (by rfl) B.len PySem.boot_len (pa_cons (pv 0) pa_nil)) pa_nil))) pa_nil))) pa_nil))
          (pg_name (i := 1) scLaw.nd rfl (Or.inl rfl))
          (pss_one (ps_if (pt_not (pt_val (C8.pe_c cR hr (by decide) (by rfl) (pa_cons (C8.pe_c cU hr (by decide) (by rfl) (pa_cons (pv 0) (pa_cons (pv 1) pa_nil))) pa_nil)))) (pss_one (ps_ret pe_bl)) pss_nil)))
      (pss_cons (ps_par (i := 2) (j := 3) rfl scLaw.nd rfl rfl (by decide) rfl rfl
          (pa_cons (C8.pe_mk cM hr (by decide) (by rfl) (pa_cons (pe_tup pa_nil) (pa_cons pe_int (pa_cons pe_int (pa_cons (pe_tup (pa_cons pe_int pa_nil)) pa_nil)))))
          (pa_cons (C8.pe_mk cM hr (by decide) (by rfl) (pa_cons (pe_tup (pa_cons pe_int pa_nil)) (pa_cons pe_int (pa_cons pe_int (pa_cons (pe_tup (pa_cons pe_int pa_nil)) pa_nil))))) pa_nil)) (by rfl))
      (pss_cons (ps_set (i := 4) scLaw.nd rfl (Or.inl rfl) (pe_lst (pa_cons (pe_op (opb O.and_ O.self hr (by decide)) (pv 2) (pv 3)) (pa_cons (pe_op (opb O.or_ O.self hr (by decide)) (pv 2) (pv 3)) (pa_cons (pe_op (opb O.sub O.self hr (by decide)) (pv 2) (pv 3)) (pa_cons (pe_op (opb O.xor O.self hr (by decide)) (pv 2) (pv 3)) (pa_cons (pe_un (opu O.inv hr (by decide)) (pv 3)) pa_nil)))))))
      (pss_cons (ps_set (i := 5) scLaw.nd rfl (Or.inl rfl) (pe_lst
          (pa_cons (C8.pe_mk cM hr (by decide) (by rfl) (pa_cons (pe_tup pa_nil) (pa_cons pe_int (pa_cons pe_int (pa_cons (pe_tup (pa_cons pe_int pa_nil)) pa_nil)))))
          (pa_cons (C8.pe_mk cM hr (by decide) (by rfl) (pa_cons (pe_tup (pa_cons pe_int (pa_cons pe_int (pa_cons pe_int pa_nil)))) (pa_cons pe_int (pa_cons pe_int (pa_cons (pe_tup (pa_cons pe_int (pa_cons pe_int (pa_cons pe_int (pa_cons pe_int pa_nil))))) pa_nil)))))
          (pa_cons (C8.pe_mk cM hr (by decide) (by rfl) (pa_cons (pe_tup (pa_cons pe_int (pa_cons pe_int pa_nil))) (pa_cons pe_int (pa_cons pe_int (pa_cons (pe_tup (pa_cons pe_int (pa_cons pe_int pa_nil))) pa_nil))))) pa_nil)))))
      (pss_cons (ps_set (i := 5) scLaw.nd rfl (Or.inl rfl) (pe_op op_cat (pv 5) (pe_lst
          (pa_cons (C8.pe_mk cM hr (by decide) (by rfl) (pa_cons (pe_tup (pa_cons pe_int (pa_cons pe_int (pa_cons pe_int pa_nil)))) (pa_cons pe_int (pa_cons pe_int (pa_cons (pe_tup (pa_cons pe_int (pa_cons pe_int (pa_cons pe_int pa_nil)))) pa_nil)))))
          (pa_cons (C8.pe_mk cM hr (by decide) (by rfl) (pa_cons (pe_tup (pa_cons pe_int (pa_cons pe_int (pa_cons pe_int (pa_cons pe_int pa_nil))))) (pa_cons pe_int (pa_cons pe_int (pa_cons (pe_tup (pa_cons pe_int (pa_cons pe_int pa_nil))) pa_nil))))) pa_nil)))))
      (pss_one (ps_ret (pe_and (pe_cmpR (opeqL O.eq hr (by decide)) (pv 4) (pv 5) (nomark _))
        (pe_and (pe_not (C8.pe_mt mW hr (by decide) (pv 2) (pa_cons (pv 3) pa_nil)))
        (pe_one (C8.pe_mt mW hr (by decide) (pe_op (opb O.and_ O.self hr (by decide)) (pv 2) (pv 3)) (pa_cons (pv 3) pa_nil))))))))))), ?_⟩
    have hm : ∃ m : Nat, m ≤ 10 ∧ (if (if ((ns.map V.int).length : Int) < 10 then ((ns.map V.int).length : Int) else 10) > 1 then (if ((ns.map V.int).length : Int) < 10 then ((ns.map V.int).length : Int) else 10) else 1) = (m : Int) := by
      refine ⟨((if (if ((ns.map V.int).length : Int) < 10 then ((ns.map V.int).length : Int) else 10) > 1 then (if ((ns.map V.int).length : Int) < 10 then ((ns.map V.int).length : Int) else 10) else 1) : Int).toNat, ?_, ?_⟩ <;> split <;> split <;> omega
    obtain ⟨m, hm10, em⟩ := hm
    refine ⟨_, rfl, a, _, rfl, .inl hS, _, _, rfl, _, _, rfl, (m : Int), congrArg (fun z => [V.int z]) em, by omega, by omega, ?_⟩
    refine for_range (lo := 0) (n := m) (fun i σ H' => Same H H' ∧ ∃ v, σ = [some (.ref a), v, none, none, none, none]) ⟨Same.refl _, none, rfl⟩ ?_ ?_
    · rintro i σ H0 hi ⟨s0, v, rfl⟩
      rw [show V.int (0 + (i : Int)) = nv i by rw [Int.zero_add]]
      refine ⟨_, rfl, _, rfl, a, i, ns, rfl, Same.seq s0 hS, by omega, fun H1 u s1 nu hu => ⟨u, rfl, hu, fun H2 o => ⟨true, rfl, iteF ⟨s0.trans (Off.same s1 nu o), _, rfl⟩⟩⟩⟩
    rintro σ H0 ⟨s0, v, rfl⟩
    -- the two sets
    refine ⟨small_len (by show 0 ≤ 1000; decide), fun p1 np1 => ⟨small_len (by show 1 ≤ 1000; decide), fun q1 nq1 z1 d1 nz1 nd1 ne1 => ?_⟩⟩
    refine ⟨z1, d1, p1, q1, [], [1], 0, 2, rfl, upd_same, same_made nz1 nd1 _ _ ((same_upd nq1) _ _ upd_same), same_made nz1 nd1 _ _ upd_same, ⟨by decide, by decide, by decide, by decide, by decide⟩, by decide, by decide, fun H1 t1 Z1 => ⟨rfl, ?_⟩⟩
    have s1 : Same H0 H1 := (same_upd np1).trans ((same_upd nq1).trans (Same.made nz1 nd1 t1))
    clear t1 np1 nq1 nz1 nd1 ne1
    refine ⟨small_len (by show 1 ≤ 1000; decide), fun p2 np2 => ⟨small_len (by show 1 ≤ 1000; decide), fun q2 nq2 z2 d2 nz2 nd2 ne2 => ?_⟩⟩
    refine ⟨z2, d2, p2, q2, [2], [0], 5, 3, rfl, upd_same, same_made nz2 nd2 _ _ ((same_upd nq2) _ _ upd_same), same_made nz2 nd2 _ _ upd_same, ⟨by decide, by decide, by decide, by decide, by decide⟩, by decide, by decide, fun H2 t2 Z2 => ⟨rfl, ?_⟩⟩
    have s2 : Same H1 H2 := (same_upd np2).trans ((same_upd nq2).trans (Same.made nz2 nd2 t2))
    clear t2 np2 nq2 nz2 nd2 ne2
    refine ⟨_, _, rfl, ?_⟩
    have O1 := Z1.same s2
    have T1 := Z2
    -- told
    refine ⟨_, rfl, _, rfl, r2 O1 T1 fun H3 z3 s3 Z3 => ?_⟩
    refine ⟨_, rfl, _, rfl, r2 (O1.same s3) (T1.same s3) fun H4 z4 s4 Z4 => ?_⟩
    refine ⟨_, rfl, _, rfl, r2 (O1.same (s3.trans s4)) (T1.same (s3.trans s4)) fun H5 z5 s5 Z5 => ?_⟩
    refine ⟨_, rfl, _, rfl, r2 (O1.same (s3.trans (s4.trans s5))) (T1.same (s3.trans (s4.trans s5))) fun H6 z6 s6 Z6 => ?_⟩
    refine ⟨_, rfl, r1 (T1.same (s3.trans (s4.trans (s5.trans s6)))) fun H7 z7 s7 Z7 => ?_⟩
    refine ⟨small_len (by show 5 ≤ 1000; decide), fun lt nlt => ?_⟩
    have sw := same_upd (o := .lst [.ref z3, .ref z4, .ref z5, .ref z6, .ref z7]) nlt
    have et : (upd H7 lt (.lst [.ref z3, .ref z4, .ref z5, .ref z6, .ref z7])) lt = some (.lst [.ref z3, .ref z4, .ref z5, .ref z6, .ref z7]) := upd_same
    show (gName 4) _ _ (upd H7 lt (.lst [.ref z3, .ref z4, .ref z5, .ref z6, .ref z7])) _
    generalize upd H7 lt (.lst [.ref z3, .ref z4, .ref z5, .ref z6, .ref z7]) = H8 at sw et
    have O2 := O1.same (s3.trans (s4.trans (s5.trans (s6.trans (s7.trans sw)))))
    have T2 := T1.same (s3.trans (s4.trans (s5.trans (s6.trans (s7.trans sw)))))
    have A3 := (Z3.same (s4.trans (s5.trans (s6.trans (s7.trans sw))))).congr told0
    have A4 := (Z4.same (s5.trans (s6.trans (s7.trans sw)))).congr told1
    have A5 := (Z5.same (s6.trans (s7.trans sw))).congr told2
    have A6 := (Z6.same (s7.trans sw)).congr told3
    have A7 := (Z7.same sw).congr told4
    clear O1 T1 Z1 Z2 Z3 Z4 Z5 Z6 Z7 s3 s4 s5 s6 s7 sw nlt
    -- due
    refine ⟨small_len (by show 0 ≤ 1000; decide), fun p9 np9 => ⟨small_len (by show 1 ≤ 1000; decide), fun q9 nq9 z9 d9 nz9 nd9 ne9 => ?_⟩⟩
    refine ⟨z9, d9, p9, q9, [], [3], 5, 6, rfl, upd_same, same_made nz9 nd9 _ _ ((same_upd nq9) _ _ upd_same), same_made nz9 nd9 _ _ upd_same, ⟨by decide, by decide, by decide, by decide, by decide⟩, by decide, by decide, fun H9 t9 Z9 => ⟨rfl, ?_⟩⟩
    have s9 : Same H8 H9 := (same_upd np9).trans ((same_upd nq9).trans (Same.made nz9 nd9 t9))
    clear t9 np9 nq9 nz9 nd9 ne9
    refine ⟨small_len (by show 3 ≤ 1000; decide), fun p10 np10 => ⟨small_len (by show 4 ≤ 1000; decide), fun q10 nq10 z10 d10 nz10 nd10 ne10 => ?_⟩⟩
    refine ⟨z10, d10, p10, q10, [1, 2, 3], [0, 1, 3, 5], 4, 6, rfl, upd_same, same_made nz10 nd10 _ _ ((same_upd nq10) _ _ upd_same), same_made nz10 nd10 _ _ upd_same, ⟨by decide, by decide, by decide, by decide, by decide⟩, by decide, by decide, fun H10 t10 Z10 => ⟨rfl, ?_⟩⟩
    have s10 : Same H9 H10 := (same_upd np10).trans ((same_upd nq10).trans (Same.made nz10 nd10 t10))
    clear t10 np10 nq10 nz10 nd10 ne10
    refine ⟨small_len (by show 2 ≤ 1000; decide), fun p11 np11 => ⟨small_len (by show 2 ≤ 1000; decide), fun q11 nq11 z11 d11 nz11 nd11 ne11 => ?_⟩⟩
    refine ⟨z11, d11, p11, q11, [1, 3], [1, 5], 4, 6, rfl, upd_same, same_made nz11 nd11 _ _ ((same_upd nq11) _ _ upd_same), same_made nz11 nd11 _ _ upd_same, ⟨by decide, by decide, by decide, by decide, by decide⟩, by decide, by decide, fun H11 t11 Z11 => ⟨rfl, ?_⟩⟩
    have s11 : Same H10 H11 := (same_upd np11).trans ((same_upd nq11).trans (Same.made nz11 nd11 t11))
    clear t11 np11 nq11 nz11 nd11 ne11
    refine ⟨small_len (by show 3 ≤ 1000; decide), fun ld nld => ?_⟩
    have sw := same_upd (o := .lst [.ref z9, .ref z10, .ref z11]) nld
    have ed : (upd H11 ld (.lst [.ref z9, .ref z10, .ref z11])) ld = some (.lst [.ref z9, .ref z10, .ref z11]) := upd_same
    show (gName 5) _ _ (upd H11 ld (.lst [.ref z9, .ref z10, .ref z11])) _
    generalize upd H11 ld (.lst [.ref z9, .ref z10, .ref z11]) = H12 at sw ed
    have B9 := Z9.same (s10.trans (s11.trans sw))
    have B10 := Z10.same (s11.trans sw)
    have B11 := Z11.same sw
    have s12 := s9.trans (s10.trans (s11.trans sw))
    clear Z9 Z10 Z11 s9 s10 s11 sw nld
    refine ⟨_, rfl, ?_⟩
    refine ⟨small_len (by show 3 ≤ 1000; decide), fun p13 np13 => ⟨small_len (by show 3 ≤ 1000; decide), fun q13 nq13 z13 d13 nz13 nd13 ne13 => ?_⟩⟩
    refine ⟨z13, d13, p13, q13, [1, 2, 3], [0, 1, 5], 4, 6, rfl, upd_same, same_made nz13 nd13 _ _ ((same_upd nq13) _ _ upd_same), same_made nz13 nd13 _ _ upd_same, ⟨by decide, by decide, by decide, by decide, by decide⟩, by decide, by decide, fun H13 t13 Z13 => ⟨rfl, ?_⟩⟩
    have s13 : Same H12 H13 := (same_upd np13).trans ((same_upd nq13).trans (Same.made nz13 nd13 t13))
    clear t13 np13 nq13 nz13 nd13 ne13
    refine ⟨small_len (by show 4 ≤ 1000; decide), fun p14 np14 => ⟨small_len (by show 2 ≤ 1000; decide), fun q14 nq14 z14 d14 nz14 nd14 ne14 => ?_⟩⟩
    refine ⟨z14, d14, p14, q14, [0, 1, 3, 4], [1, 2], 5, 3, rfl, upd_same, same_made nz14 nd14 _ _ ((same_upd nq14) _ _ upd_same), same_made nz14 nd14 _ _ upd_same, ⟨by decide, by decide, by decide, by decide, by decide⟩, by decide, by decide, fun H14 t14 Z14 => ⟨rfl, ?_⟩⟩
    have s14 : Same H13 H14 := (same_upd np14).trans ((same_upd nq14).trans (Same.made nz14 nd14 t14))
    clear t14 np14 nq14 nz14 nd14 ne14
    refine ⟨small_len (by show 2 ≤ 1000; decide), fun le nle => ?_⟩
    refine ⟨ld, le, _, _, rfl, rfl, (same_upd nle) _ _ (s14 _ _ (s13 _ _ ed)), upd_same, small_len (by show 5 ≤ 1000; decide), fun lf nlf => ?_⟩
    have sv := s13.trans (s14.trans ((same_upd nle).trans (same_upd (o := .lst ([.ref z9, .ref z10, .ref z11] ++ [.ref z13, .ref z14])) nlf)))
    have sw := (same_upd (o := .lst [.ref z13, .ref z14]) nle).trans (same_upd (o := .lst ([.ref z9, .ref z10, .ref z11] ++ [.ref z13, .ref z14])) nlf)
    have ef : (upd (upd H14 le (.lst [.ref z13, .ref z14])) lf (.lst ([.ref z9, .ref z10, .ref z11] ++ [.ref z13, .ref z14]))) lf = some (.lst ([.ref z9, .ref z10, .ref z11] ++ [.ref z13, .ref z14])) := upd_same
    show (gName 5) _ _ (upd (upd H14 le (.lst [.ref z13, .ref z14])) lf (.lst ([.ref z9, .ref z10, .ref z11] ++ [.ref z13, .ref z14]))) _
    generalize upd (upd H14 le (.lst [.ref z13, .ref z14])) lf (.lst ([.ref z9, .ref z10, .ref z11] ++ [.ref z13, .ref z14])) = H15 at sv sw ef
    have sx := s12.trans sv
    refine ⟨_, rfl, _, rfl, ⟨lt, lf, _, _, rfl, rfl, sx _ _ et, ef, .cons (dins (A3.same sx) (B9.same sv) fun _ => rfl) (.cons (dins (A4.same sx) (B10.same sv) fun _ => rfl) (.cons (dins (A5.same sx) (B11.same sv) fun _ => rfl) (.cons (dins (A6.same sx) (Z13.same (s14.trans sw)) fun _ => rfl) (.cons (dins (A7.same sx) (Z14.same sw) fun _ => rfl) .nil))))⟩, fun H16 s16 => ⟨true, rfl, iteT ?_⟩⟩
    have O3 := (O2.same sx).same s16
    have T3 := (T2.same sx).same s16
    obtain ⟨do1, _, _, _, _, _, _, _, ho1, _⟩ := O3.ex
    refine ⟨_, rfl, z1, do1, _, rfl, ho1, fl_within, _, rfl, z1, z2, _, _, rfl, O3, T3, fun H17 b1 s17 hb1 => ⟨b1, rfl, !b1, rfl, ?_⟩⟩
    rw [show b1 = false from Bool.eq_false_iff.mpr fun h => not_odd (hb1.mp h)]
    refine iteT ⟨_, rfl, _, rfl, r2 (O3.same s17) (T3.same s17) fun H18 z s18 Z => ?_⟩
    obtain ⟨dz, _, _, _, _, _, _, _, hz, _⟩ := Z.ex
    refine ⟨z, dz, _, rfl, hz, fl_within, _, rfl, z, z2, _, _, rfl, Z, (T3.same s17).same s18, fun H19 b2 s19 hb2 => ?_⟩
    rw [hb2.mpr fun n hn => by
      rw [Bool.and_eq_true] at hn
      exact hn.2]
    exact k H19
end
end K03


-- text K03J
set_option Elab.async false
set_option linter.all false
set_option maxRecDepth 100000
set_option maxHeartbeats 0
/-! What the top has left, and the law's own end. -/
namespace K03
open PySem PySem.Spec PyProof.Rows L2
theorem pair_dp {K : PySem.W.Frag} {a : Addr} {x y : Bool} {od : Option Addr} {n : Nat} {sl : Array (Option Value)} (h : K.lookup a = some ⟨.type "tuple", od, .seq ⟨[.bool x, .bool y]⟩ n, sl⟩) (H : Hp) : Dp K H (.ref a) (.tuple [.bool x, .bool y]) :=
  .tup (xs := [.bl x, .bl y]) (.inr ⟨_, _, _, h, rfl, rfl, small_len (by show 2 ≤ 1000; decide), .cons rfl (.cons rfl .nil)⟩) (.cons (.bl _) (.cons (.bl _) .nil))

theorem want_BOTH {K : PySem.W.Frag} {a : Addr} {od : Option Addr} {n : Nat} {sl : Array (Option Value)} {a0 : Addr} {od0 : Option Addr} {n0 : Nat} {sl0 : Array (Option Value)} (h0 : K.lookup a0 = some ⟨.type "tuple", od0, .seq ⟨[.bool true, .bool true]⟩ n0, sl0⟩) (h : K.lookup a = some ⟨.type "tuple", od, .seq ⟨[.ref a0]⟩ n, sl⟩) : WantAt K a (fun s t => s && t) :=
  ⟨[.tuple [.bool true, .bool true]], fun H => .tup (xs := [.ref a0]) (.inr ⟨_, _, _, h, rfl, rfl, small_len (by show 1 ≤ 1000; decide), .cons rfl (.nil)⟩) (.cons (pair_dp h0 H) (.nil)), by decide +kernel, fun x y => by cases x <;> cases y <;> decide +kernel⟩

theorem want_ANY {K : PySem.W.Frag} {a : Addr} {od : Option Addr} {n : Nat} {sl : Array (Option Value)} {a0 : Addr} {od0 : Option Addr} {n0 : Nat} {sl0 : Array (Option Value)} (h0 : K.lookup a0 = some ⟨.type "tuple", od0, .seq ⟨[.bool true, .bool true]⟩ n0, sl0⟩) {a1 : Addr} {od1 : Option Addr} {n1 : Nat} {sl1 : Array (Option Value)} (h1 : K.lookup a1 = some ⟨.type "tuple", od1, .seq ⟨[.bool true, .bool false]⟩ n1, sl1⟩) {a2 : Addr} {od2 : Option Addr} {n2 : Nat} {sl2 : Array (Option Value)} (h2 : K.lookup a2 = some ⟨.type "tuple", od2, .seq ⟨[.bool false, .bool true]⟩ n2, sl2⟩) (h : K.lookup a = some ⟨.type "tuple", od, .seq ⟨[.ref a0, .ref a1, .ref a2]⟩ n, sl⟩) : WantAt K a (fun s t => s || t) :=
  ⟨[.tuple [.bool true, .bool true], .tuple [.bool true, .bool false], .tuple [.bool false, .bool true]], fun H => .tup (xs := [.ref a0, .ref a1, .ref a2]) (.inr ⟨_, _, _, h, rfl, rfl, small_len (by show 3 ≤ 1000; decide), .cons rfl (.cons rfl (.cons rfl (.nil)))⟩) (.cons (pair_dp h0 H) (.cons (pair_dp h1 H) (.cons (pair_dp h2 H) (.nil)))), by decide +kernel, fun x y => by cases x <;> cases y <;> decide +kernel⟩

theorem want_ONE_ALONE {K : PySem.W.Frag} {a : Addr} {od : Option Addr} {n : Nat} {sl : Array (Option Value)} {a0 : Addr} {od0 : Option Addr} {n0 : Nat} {sl0 : Array (Option Value)} (h0 : K.lookup a0 = some ⟨.type "tuple", od0, .seq ⟨[.bool true, .bool false]⟩ n0, sl0⟩) (h : K.lookup a = some ⟨.type "tuple", od, .seq ⟨[.ref a0]⟩ n, sl⟩) : WantAt K a (fun s t => s && !t) :=
  ⟨[.tuple [.bool true, .bool false]], fun H => .tup (xs := [.ref a0]) (.inr ⟨_, _, _, h, rfl, rfl, small_len (by show 1 ≤ 1000; decide), .cons rfl (.nil)⟩) (.cons (pair_dp h0 H) (.nil)), by decide +kernel, fun x y => by cases x <;> cases y <;> decide +kernel⟩

theorem want_JUST_ONE {K : PySem.W.Frag} {a : Addr} {od : Option Addr} {n : Nat} {sl : Array (Option Value)} {a0 : Addr} {od0 : Option Addr} {n0 : Nat} {sl0 : Array (Option Value)} (h0 : K.lookup a0 = some ⟨.type "tuple", od0, .seq ⟨[.bool true, .bool false]⟩ n0, sl0⟩) {a1 : Addr} {od1 : Option Addr} {n1 : Nat} {sl1 : Array (Option Value)} (h1 : K.lookup a1 = some ⟨.type "tuple", od1, .seq ⟨[.bool false, .bool true]⟩ n1, sl1⟩) (h : K.lookup a = some ⟨.type "tuple", od, .seq ⟨[.ref a0, .ref a1]⟩ n, sl⟩) : WantAt K a (fun s t => s != t) :=
  ⟨[.tuple [.bool true, .bool false], .tuple [.bool false, .bool true]], fun H => .tup (xs := [.ref a0, .ref a1]) (.inr ⟨_, _, _, h, rfl, rfl, small_len (by show 2 ≤ 1000; decide), .cons rfl (.cons rfl (.nil))⟩) (.cons (pair_dp h0 H) (.cons (pair_dp h1 H) (.nil))), by decide +kernel, fun x y => by cases x <;> cases y <;> decide +kernel⟩

theorem all_mk {l : PySem.W.OpenLaw} {w : World} {K : PySem.W.Frag} {h : Heap} {mg : Str → Option Value} {fa C f1 f2 f3 f4 f5 f6 f7 f8 f9 f10 f11 f12 f13 f14 f15 f16 f17 f18 f19 f20 f21 f22 f23 f24 f25 f26 f27 f28 f29 f30 f31 f32 f33 p33 f34 p34 tBOTH tBOTH0 tANY tANY0 tANY1 tANY2 tONE_ALONE tONE_ALONE0 tJUST_ONE tJUST_ONE0 tJUST_ONE1 : Addr} (X : K.In h) (G : h.Ns mainGlobals mg) (hfa : mg "law" = some (.ref fa))
    {od1 an1 od2 an2 od3 an3 od4 an4 od5 an5 od6 an6 od7 an7 od8 an8 od9 an9 od10 an10 od11 an11 od12 an12 od13 an13 od14 an14 od15 an15 od16 an16 od17 an17 od18 an18 od19 an19 od20 an20 od21 an21 od22 an22 od23 an23 od24 an24 od25 an25 od26 an26 od27 an27 od28 an28 od29 an29 od30 an30 od31 an31 od32 an32 od33 an33 od34 an34 odBOTH odBOTH0 odANY odANY0 odANY1 odANY2 odONE_ALONE odONE_ALONE0 odJUST_ONE odJUST_ONE0 odJUST_ONE1 : Option Addr} {sl1 sl2 sl3 sl4 sl5 sl6 sl7 sl8 sl9 sl10 sl11 sl12 sl13 sl14 sl15 sl16 sl17 sl18 sl19 sl20 sl21 sl22 sl23 sl24 sl25 sl26 sl27 sl28 sl29 sl30 sl31 sl32 sl33 sl34 slBOTH slBOTH0 slANY slANY0 slANY1 slANY2 slONE_ALONE slONE_ALONE0 slJUST_ONE slJUST_ONE0 slJUST_ONE1 : Array (Option Value)} {oc1 kV1 dc1 pm1 cd1 ct1 oc2 kV2 dc2 pm2 cd2 ct2 oc3 kV3 dc3 pm3 cd3 ct3 oc4 kV4 dc4 pm4 cd4 ct4 oc5 kV5 dc5 pm5 cd5 ct5 oc6 kV6 dc6 pm6 cd6 ct6 oc7 kV7 dc7 pm7 cd7 ct7 oc8 kV8 dc8 pm8 cd8 ct8 oc9 kV9 dc9 pm9 cd9 ct9 oc10 kV10 dc10 pm10 cd10 ct10 oc11 kV11 dc11 pm11 cd11 ct11 oc12 kV12 dc12 pm12 cd12 ct12 oc13 kV13 dc13 pm13 cd13 ct13 oc14 kV14 dc14 pm14 cd14 ct14 oc15 kV15 dc15 pm15 cd15 ct15 oc16 kV16 dc16 pm16 cd16 ct16 oc17 kV17 dc17 pm17 cd17 ct17 oc18 kV18 dc18 pm18 cd18 ct18 oc19 kV19 dc19 pm19 cd19 ct19 oc20 kV20 dc20 pm20 cd20 ct20 oc21 kV21 dc21 pm21 cd21 ct21 oc22 kV22 dc22 pm22 cd22 ct22 oc23 kV23 dc23 pm23 cd23 ct23 oc24 kV24 dc24 pm24 cd24 ct24 oc25 kV25 dc25 pm25 cd25 ct25 oc26 kV26 dc26 pm26 cd26 ct26 oc27 kV27 dc27 pm27 cd27 ct27 oc28 kV28 dc28 pm28 cd28 ct28 oc29 kV29 dc29 pm29 cd29 ct29 oc30 kV30 dc30 pm30 cd30 ct30 oc31 kV31 dc31 pm31 cd31 ct31 oc32 kV32 dc32 pm32 cd32 ct32 mc oc33 kV33 dc33 pm33 cd33 ct33 oc34 kV34 dc34 pm34 cd34 ct34 : Value} {nBOTH nBOTH0 nANY nANY0 nANY1 nANY2 nONE_ALONE nONE_ALONE0 nJUST_ONE nJUST_ONE0 nJUST_ONE1 : Nat} {rs33 rs34 : List Value} {tk1 tk2 : Tok}
    (aC : PySem.W.nsIn K mainGlobals "Limits" = some (some (.ref C)))
    (a1 : PySem.W.nsIn K mainGlobals "is_integer" = some (some (.ref f1)))
    (l1 : K.lookup f1 = some ⟨oc1, od1, .func (PySem.W.fnOf "is_integer" "is_integer" (defArgs sIsInteger) (defBody sIsInteger) (defScope sIsInteger) .none kV1 dc1 pm1 an1 cd1 ct1), sl1⟩)
    (c1 : PySem.W.codeIn K cd1 "is_integer" = true)
    (k1 : PySem.W.keepIn K (.ref f1) = true)
    (a2 : PySem.W.nsIn K mainGlobals "is_below" = some (some (.ref f2)))
    (l2 : K.lookup f2 = some ⟨oc2, od2, .func (PySem.W.fnOf "is_below" "is_below" (defArgs sIsBelow) (defBody sIsBelow) (defScope sIsBelow) .none kV2 dc2 pm2 an2 cd2 ct2), sl2⟩)
    (c2 : PySem.W.codeIn K cd2 "is_below" = true)
    (k2 : PySem.W.keepIn K (.ref f2) = true)
    (a3 : PySem.W.nsIn K mainGlobals "is_ascending" = some (some (.ref f3)))
    (l3 : K.lookup f3 = some ⟨oc3, od3, .func (PySem.W.fnOf "is_ascending" "is_ascending" (defArgs sIsAscending) (defBody sIsAscending) (defScope sIsAscending) .none kV3 dc3 pm3 an3 cd3 ct3), sl3⟩)
    (c3 : PySem.W.codeIn K cd3 "is_ascending" = true)
    (k3 : PySem.W.keepIn K (.ref f3) = true)
    (a4 : PySem.W.nsIn K mainGlobals "are_below" = some (some (.ref f4)))
    (l4 : K.lookup f4 = some ⟨oc4, od4, .func (PySem.W.fnOf "are_below" "are_below" (defArgs sAreBelow) (defBody sAreBelow) (defScope sAreBelow) .none kV4 dc4 pm4 an4 cd4 ct4), sl4⟩)
    (c4 : PySem.W.codeIn K cd4 "are_below" = true)
    (k4 : PySem.W.keepIn K (.ref f4) = true)
    (a5 : PySem.W.nsIn K mainGlobals "has_period" = some (some (.ref f5)))
    (l5 : K.lookup f5 = some ⟨oc5, od5, .func (PySem.W.fnOf "has_period" "has_period" (defArgs sHasPeriod) (defBody sHasPeriod) (defScope sHasPeriod) .none kV5 dc5 pm5 an5 cd5 ct5), sl5⟩)
    (c5 : PySem.W.codeIn K cd5 "has_period" = true)
    (k5 : PySem.W.keepIn K (.ref f5) = true)
    (a6 : PySem.W.nsIn K mainGlobals "least_period" = some (some (.ref f6)))
    (l6 : K.lookup f6 = some ⟨oc6, od6, .func (PySem.W.fnOf "least_period" "least_period" (defArgs sLeastPeriod) (defBody sLeastPeriod) (defScope sLeastPeriod) .none kV6 dc6 pm6 an6 cd6 ct6), sl6⟩)
    (c6 : PySem.W.codeIn K cd6 "least_period" = true)
    (k6 : PySem.W.keepIn K (.ref f6) = true)
    (a7 : PySem.W.nsIn K mainGlobals "least_first" = some (some (.ref f7)))
    (l7 : K.lookup f7 = some ⟨oc7, od7, .func (PySem.W.fnOf "least_first" "least_first" (defArgs sLeastFirst) (defBody sLeastFirst) (defScope sLeastFirst) .none kV7 dc7 pm7 an7 cd7 ct7), sl7⟩)
    (c7 : PySem.W.codeIn K cd7 "least_first" = true)
    (k7 : PySem.W.keepIn K (.ref f7) = true)
    (a8 : PySem.W.nsIn K mainGlobals "greatest_divisor" = some (some (.ref f8)))
    (l8 : K.lookup f8 = some ⟨oc8, od8, .func (PySem.W.fnOf "greatest_divisor" "greatest_divisor" (defArgs sDivisor) (defBody sDivisor) (defScope sDivisor) .none kV8 dc8 pm8 an8 cd8 ct8), sl8⟩)
    (c8 : PySem.W.codeIn K cd8 "greatest_divisor" = true)
    (k8 : PySem.W.keepIn K (.ref f8) = true)
    (a9 : PySem.W.nsIn K mainGlobals "begins_of" = some (some (.ref f9)))
    (l9 : K.lookup f9 = some ⟨oc9, od9, .func (PySem.W.fnOf "begins_of" "begins_of" (defArgs sBegins) (defBody sBegins) (defScope sBegins) .none kV9 dc9 pm9 an9 cd9 ct9), sl9⟩)
    (c9 : PySem.W.codeIn K cd9 "begins_of" = true)
    (k9 : PySem.W.keepIn K (.ref f9) = true)
    (a10 : PySem.W.nsIn K mainGlobals "require_limits" = some (some (.ref f10)))
    (l10 : K.lookup f10 = some ⟨oc10, od10, .func (PySem.W.fnOf "require_limits" "require_limits" (defArgs sRequire) (defBody sRequire) (defScope sRequire) .none kV10 dc10 pm10 an10 cd10 ct10), sl10⟩)
    (c10 : PySem.W.codeIn K cd10 "require_limits" = true)
    (k10 : PySem.W.keepIn K (.ref f10) = true)
    (a11 : PySem.W.nsIn K mainGlobals "has_number" = some (some (.ref f11)))
    (l11 : K.lookup f11 = some ⟨oc11, od11, .func (PySem.W.fnOf "has_number" "has_number" (defArgs sHas) (defBody sHas) (defScope sHas) .none kV11 dc11 pm11 an11 cd11 ct11), sl11⟩)
    (c11 : PySem.W.codeIn K cd11 "has_number" = true)
    (k11 : PySem.W.keepIn K (.ref f11) = true)
    (a12 : PySem.W.nsIn K mainGlobals "joined" = some (some (.ref f12)))
    (l12 : K.lookup f12 = some ⟨oc12, od12, .func (PySem.W.fnOf "joined" "joined" (defArgs sJoined) (defBody sJoined) (defScope sJoined) .none kV12 dc12 pm12 an12 cd12 ct12), sl12⟩)
    (c12 : PySem.W.codeIn K cd12 "joined" = true)
    (k12 : PySem.W.keepIn K (.ref f12) = true)
    (a13 : PySem.W.nsIn K mainGlobals "_law_urn" = some (some (.ref f13)))
    (l13 : K.lookup f13 = some ⟨oc13, od13, .func (PySem.W.fnOf "_law_urn" "_law_urn" (defArgs sUrn) (defBody sUrn) (defScope sUrn) .none kV13 dc13 pm13 an13 cd13 ct13), sl13⟩)
    (c13 : PySem.W.codeIn K cd13 "_law_urn" = true)
    (k13 : PySem.W.keepIn K (.ref f13) = true)
    (a14 : PySem.W.nsIn K mainGlobals "_law_toss" = some (some (.ref f14)))
    (l14 : K.lookup f14 = some ⟨oc14, od14, .func (PySem.W.fnOf "_law_toss" "_law_toss" (defArgs sToss) (defBody sToss) (defScope sToss) .none kV14 dc14 pm14 an14 cd14 ct14), sl14⟩)
    (c14 : PySem.W.codeIn K cd14 "_law_toss" = true)
    (k14 : PySem.W.keepIn K (.ref f14) = true)
    (a15 : PySem.W.nsIn K mainGlobals "_law_pick" = some (some (.ref f15)))
    (l15 : K.lookup f15 = some ⟨oc15, od15, .func (PySem.W.fnOf "_law_pick" "_law_pick" (defArgs sPick) (defBody sPick) (defScope sPick) .none kV15 dc15 pm15 an15 cd15 ct15), sl15⟩)
    (c15 : PySem.W.codeIn K cd15 "_law_pick" = true)
    (k15 : PySem.W.keepIn K (.ref f15) = true)
    (a16 : PySem.W.nsIn K mainGlobals "_law_drawn" = some (some (.ref f16)))
    (l16 : K.lookup f16 = some ⟨oc16, od16, .func (PySem.W.fnOf "_law_drawn" "_law_drawn" (defArgs sDrawn) (defBody sDrawn) (defScope sDrawn) .none kV16 dc16 pm16 an16 cd16 ct16), sl16⟩)
    (c16 : PySem.W.codeIn K cd16 "_law_drawn" = true)
    (k16 : PySem.W.keepIn K (.ref f16) = true)
    (a17 : PySem.W.nsIn K mainGlobals "_law_has" = some (some (.ref f17)))
    (l17 : K.lookup f17 = some ⟨oc17, od17, .func (PySem.W.fnOf "_law_has" "_law_has" (defArgs sLHas) (defBody sLHas) (defScope sLHas) .none kV17 dc17 pm17 an17 cd17 ct17), sl17⟩)
    (c17 : PySem.W.codeIn K cd17 "_law_has" = true)
    (k17 : PySem.W.keepIn K (.ref f17) = true)
    (a18 : PySem.W.nsIn K mainGlobals "_law_limits" = some (some (.ref f18)))
    (l18 : K.lookup f18 = some ⟨oc18, od18, .func (PySem.W.fnOf "_law_limits" "_law_limits" (defArgs sLLimits) (defBody sLLimits) (defScope sLLimits) .none kV18 dc18 pm18 an18 cd18 ct18), sl18⟩)
    (c18 : PySem.W.codeIn K cd18 "_law_limits" = true)
    (k18 : PySem.W.keepIn K (.ref f18) = true)
    (a19 : PySem.W.nsIn K mainGlobals "_law_due" = some (some (.ref f19)))
    (l19 : K.lookup f19 = some ⟨oc19, od19, .func (PySem.W.fnOf "_law_due" "_law_due" (defArgs sDue) (defBody sDue) (defScope sDue) .none kV19 dc19 pm19 an19 cd19 ct19), sl19⟩)
    (c19 : PySem.W.codeIn K cd19 "_law_due" = true)
    (k19 : PySem.W.keepIn K (.ref f19) = true)
    (a20 : PySem.W.nsIn K mainGlobals "_law_is_by" = some (some (.ref f20)))
    (l20 : K.lookup f20 = some ⟨oc20, od20, .func (PySem.W.fnOf "_law_is_by" "_law_is_by" (defArgs sIsBy) (defBody sIsBy) (defScope sIsBy) .none kV20 dc20 pm20 an20 cd20 ct20), sl20⟩)
    (c20 : PySem.W.codeIn K cd20 "_law_is_by" = true)
    (k20 : PySem.W.keepIn K (.ref f20) = true)
    (a21 : PySem.W.nsIn K mainGlobals "_law_right" = some (some (.ref f21)))
    (l21 : K.lookup f21 = some ⟨oc21, od21, .func (PySem.W.fnOf "_law_right" "_law_right" (defArgs sRight) (defBody sRight) (defScope sRight) .none kV21 dc21 pm21 an21 cd21 ct21), sl21⟩)
    (c21 : PySem.W.codeIn K cd21 "_law_right" = true)
    (k21 : PySem.W.keepIn K (.ref f21) = true)
    (a22 : PySem.W.nsIn K mainGlobals "law" = some (some (.ref f22)))
    (l22 : K.lookup f22 = some ⟨oc22, od22, .func (PySem.W.fnOf "law" "law" (defArgs sLaw) (defBody sLaw) (defScope sLaw) .none kV22 dc22 pm22 an22 cd22 ct22), sl22⟩)
    (c22 : PySem.W.codeIn K cd22 "law" = true)
    (k22 : PySem.W.keepIn K (.ref f22) = true)
    (a23 : PySem.W.findIn K (.ref C) "__init__" = some (some (.ref f23)))
    (i23 : PySem.W.isFn K (.ref f23) = true)
    (l23 : K.lookup f23 = some ⟨oc23, od23, .func (PySem.W.fnOf "__init__" "Limits.__init__" (defArgs sInit) (defBody sInit) (defScope sInit) .none kV23 dc23 pm23 an23 cd23 ct23), sl23⟩)
    (c23 : PySem.W.codeIn K cd23 "Limits.__init__" = true)
    (k23 : PySem.W.keepIn K (.ref f23) = true)
    (a24 : PySem.W.findIn K (.ref C) "is_within" = some (some (.ref f24)))
    (i24 : PySem.W.isFn K (.ref f24) = true)
    (l24 : K.lookup f24 = some ⟨oc24, od24, .func (PySem.W.fnOf "is_within" "Limits.is_within" (defArgs sWithin) (defBody sWithin) (defScope sWithin) .none kV24 dc24 pm24 an24 cd24 ct24), sl24⟩)
    (c24 : PySem.W.codeIn K cd24 "Limits.is_within" = true)
    (k24 : PySem.W.keepIn K (.ref f24) = true)
    (a25 : PySem.W.findIn K (.ref C) "__and__" = some (some (.ref f25)))
    (i25 : PySem.W.isFn K (.ref f25) = true)
    (l25 : K.lookup f25 = some ⟨oc25, od25, .func (PySem.W.fnOf "__and__" "Limits.__and__" (defArgs sAnd) (defBody sAnd) (defScope sAnd) .none kV25 dc25 pm25 an25 cd25 ct25), sl25⟩)
    (c25 : PySem.W.codeIn K cd25 "Limits.__and__" = true)
    (k25 : PySem.W.keepIn K (.ref f25) = true)
    (a26 : PySem.W.findIn K (.ref C) "__or__" = some (some (.ref f26)))
    (i26 : PySem.W.isFn K (.ref f26) = true)
    (l26 : K.lookup f26 = some ⟨oc26, od26, .func (PySem.W.fnOf "__or__" "Limits.__or__" (defArgs sOr) (defBody sOr) (defScope sOr) .none kV26 dc26 pm26 an26 cd26 ct26), sl26⟩)
    (c26 : PySem.W.codeIn K cd26 "Limits.__or__" = true)
    (k26 : PySem.W.keepIn K (.ref f26) = true)
    (a27 : PySem.W.findIn K (.ref C) "__sub__" = some (some (.ref f27)))
    (i27 : PySem.W.isFn K (.ref f27) = true)
    (l27 : K.lookup f27 = some ⟨oc27, od27, .func (PySem.W.fnOf "__sub__" "Limits.__sub__" (defArgs sSub) (defBody sSub) (defScope sSub) .none kV27 dc27 pm27 an27 cd27 ct27), sl27⟩)
    (c27 : PySem.W.codeIn K cd27 "Limits.__sub__" = true)
    (k27 : PySem.W.keepIn K (.ref f27) = true)
    (a28 : PySem.W.findIn K (.ref C) "__xor__" = some (some (.ref f28)))
    (i28 : PySem.W.isFn K (.ref f28) = true)
    (l28 : K.lookup f28 = some ⟨oc28, od28, .func (PySem.W.fnOf "__xor__" "Limits.__xor__" (defArgs sXor) (defBody sXor) (defScope sXor) .none kV28 dc28 pm28 an28 cd28 ct28), sl28⟩)
    (c28 : PySem.W.codeIn K cd28 "Limits.__xor__" = true)
    (k28 : PySem.W.keepIn K (.ref f28) = true)
    (a29 : PySem.W.findIn K (.ref C) "__invert__" = some (some (.ref f29)))
    (i29 : PySem.W.isFn K (.ref f29) = true)
    (l29 : K.lookup f29 = some ⟨oc29, od29, .func (PySem.W.fnOf "__invert__" "Limits.__invert__" (defArgs sInvert) (defBody sInvert) (defScope sInvert) .none kV29 dc29 pm29 an29 cd29 ct29), sl29⟩)
    (c29 : PySem.W.codeIn K cd29 "Limits.__invert__" = true)
    (k29 : PySem.W.keepIn K (.ref f29) = true)
    (a30 : PySem.W.findIn K (.ref C) "__contains__" = some (some (.ref f30)))
    (i30 : PySem.W.isFn K (.ref f30) = true)
    (l30 : K.lookup f30 = some ⟨oc30, od30, .func (PySem.W.fnOf "__contains__" "Limits.__contains__" (defArgs sContains) (defBody sContains) (defScope sContains) .none kV30 dc30 pm30 an30 cd30 ct30), sl30⟩)
    (c30 : PySem.W.codeIn K cd30 "Limits.__contains__" = true)
    (k30 : PySem.W.keepIn K (.ref f30) = true)
    (a31 : PySem.W.findIn K (.ref C) "__bool__" = some (some (.ref f31)))
    (i31 : PySem.W.isFn K (.ref f31) = true)
    (l31 : K.lookup f31 = some ⟨oc31, od31, .func (PySem.W.fnOf "__bool__" "Limits.__bool__" (defArgs sBool) (defBody sBool) (defScope sBool) .none kV31 dc31 pm31 an31 cd31 ct31), sl31⟩)
    (c31 : PySem.W.codeIn K cd31 "Limits.__bool__" = true)
    (k31 : PySem.W.keepIn K (.ref f31) = true)
    (a32 : PySem.W.findIn K (.ref C) "__eq__" = some (some (.ref f32)))
    (i32 : PySem.W.isFn K (.ref f32) = true)
    (l32 : K.lookup f32 = some ⟨oc32, od32, .func (PySem.W.fnOf "__eq__" "Limits.__eq__" (defArgs sEq) (defBody sEq) (defScope sEq) .none kV32 dc32 pm32 an32 cd32 ct32), sl32⟩)
    (c32 : PySem.W.codeIn K cd32 "Limits.__eq__" = true)
    (k32 : PySem.W.keepIn K (.ref f32) = true)
    (tC : PySem.W.typeIn K (.ref C) = some mc)
    (rC : PySem.W.readsIn K C mc = true)
    (gC : PySem.W.specialIn K (.ref C) "__getattribute__" = some (some (.builtin "type.__getattribute__")))
    (a33 : PySem.W.findCls K (.ref C) mc "every" = some (.get (.builtin "classmethod.__get__") (.ref p33) .none (.ref C)))
    (r33 : PySem.W.recIn K p33 "classmethod" = some (.ref f33 :: rs33))
    (i33 : PySem.W.fnIn K f33 = true)
    (l33 : K.lookup f33 = some ⟨oc33, od33, .func (PySem.W.fnOf "every" "Limits.every" (defArgs sEvery) (defBody sEvery) (defScope sEvery) .none kV33 dc33 pm33 an33 cd33 ct33), sl33⟩)
    (c33 : PySem.W.codeIn K cd33 "Limits.every" = true)
    (k33 : PySem.W.keepIn K (.ref f33) = true)
    (a34 : PySem.W.findCls K (.ref C) mc "none" = some (.get (.builtin "classmethod.__get__") (.ref p34) .none (.ref C)))
    (r34 : PySem.W.recIn K p34 "classmethod" = some (.ref f34 :: rs34))
    (i34 : PySem.W.fnIn K f34 = true)
    (l34 : K.lookup f34 = some ⟨oc34, od34, .func (PySem.W.fnOf "none" "Limits.none" (defArgs sNone) (defBody sNone) (defScope sNone) .none kV34 dc34 pm34 an34 cd34 ct34), sl34⟩)
    (c34 : PySem.W.codeIn K cd34 "Limits.none" = true)
    (k34 : PySem.W.keepIn K (.ref f34) = true)
    (n_own_period : PySem.W.findIn K (.ref C) "own_period" = some none)
    (n_own_rests : PySem.W.findIn K (.ref C) "own_rests" = some none)
    (n_own_first : PySem.W.findIn K (.ref C) "own_first" = some none)
    (n_own_few : PySem.W.findIn K (.ref C) "own_few" = some none)
    (n_own_begins : PySem.W.findIn K (.ref C) "own_begins" = some none)
    (pg : PySem.W.plainGet K C Str.empty = true)
    (hd : PySem.W.hasDictIn K C = true)
    (po : PySem.W.plainOver K C = true)
    (sa : PySem.W.findIn K (.ref C) "__setattr__" = some (some (.builtin "object.__setattr__")))
    (mk : PySem.W.makesIn K C = true)
    (kc : PySem.W.keepIn K (.ref C) = true)
    (ha : PySem.W.findIn K (.ref C) "__class__" = some (some (.builtin "object.__class__")))
    (hn : PySem.W.specialIn K (.builtin "object.__class__") "__get__" = some (some (.builtin "getset_descriptor.__get__")))
    (htk : PySem.W.takesIn K (.builtin "object.__class__") = some true)
    (hm : PySem.W.mroIn K C (.type "object") = some true)
    (sf : PySem.W.selfFirst K C = true)
    (ne : PySem.W.findIn K (.ref C) "__ne__" = some (some (.builtin "object.__ne__")))
    (ob : PySem.W.subIn K (.ref C) (.type "object") = some true)
    (z_isinstance : PySem.W.nsIn K mainGlobals "isinstance" = some none)
    (z_int : PySem.W.nsIn K mainGlobals "int" = some none)
    (z_bool : PySem.W.nsIn K mainGlobals "bool" = some none)
    (z_tuple : PySem.W.nsIn K mainGlobals "tuple" = some none)
    (z_all : PySem.W.nsIn K mainGlobals "all" = some none)
    (z_zip : PySem.W.nsIn K mainGlobals "zip" = some none)
    (z_min : PySem.W.nsIn K mainGlobals "min" = some none)
    (z_max : PySem.W.nsIn K mainGlobals "max" = some none)
    (z_range : PySem.W.nsIn K mainGlobals "range" = some none)
    (z_sorted : PySem.W.nsIn K mainGlobals "sorted" = some none)
    (z_len : PySem.W.nsIn K mainGlobals "len" = some none)
    (z_abs : PySem.W.nsIn K mainGlobals "abs" = some none)
    (uT : PySem.W.nsIn K mainGlobals "TOP" = some (some (.int 10000000000000000000000000000000000000000 tk1)))
    (uM : PySem.W.nsIn K mainGlobals "MAX_PERIOD" = some (some (.int 2000 tk2)))
    (vBOTH : PySem.W.nsIn K mainGlobals "BOTH" = some (some (.ref tBOTH)))
    (wBOTH : K.lookup tBOTH = some ⟨.type "tuple", odBOTH, .seq ⟨[.ref tBOTH0]⟩ nBOTH, slBOTH⟩)
    (wBOTH0 : K.lookup tBOTH0 = some ⟨.type "tuple", odBOTH0, .seq ⟨[.bool true, .bool true]⟩ nBOTH0, slBOTH0⟩)
    (vANY : PySem.W.nsIn K mainGlobals "ANY" = some (some (.ref tANY)))
    (wANY : K.lookup tANY = some ⟨.type "tuple", odANY, .seq ⟨[.ref tANY0, .ref tANY1, .ref tANY2]⟩ nANY, slANY⟩)
    (wANY0 : K.lookup tANY0 = some ⟨.type "tuple", odANY0, .seq ⟨[.bool true, .bool true]⟩ nANY0, slANY0⟩)
    (wANY1 : K.lookup tANY1 = some ⟨.type "tuple", odANY1, .seq ⟨[.bool true, .bool false]⟩ nANY1, slANY1⟩)
    (wANY2 : K.lookup tANY2 = some ⟨.type "tuple", odANY2, .seq ⟨[.bool false, .bool true]⟩ nANY2, slANY2⟩)
    (vONE_ALONE : PySem.W.nsIn K mainGlobals "ONE_ALONE" = some (some (.ref tONE_ALONE)))
    (wONE_ALONE : K.lookup tONE_ALONE = some ⟨.type "tuple", odONE_ALONE, .seq ⟨[.ref tONE_ALONE0]⟩ nONE_ALONE, slONE_ALONE⟩)
    (wONE_ALONE0 : K.lookup tONE_ALONE0 = some ⟨.type "tuple", odONE_ALONE0, .seq ⟨[.bool true, .bool false]⟩ nONE_ALONE0, slONE_ALONE0⟩)
    (vJUST_ONE : PySem.W.nsIn K mainGlobals "JUST_ONE" = some (some (.ref tJUST_ONE)))
    (wJUST_ONE : K.lookup tJUST_ONE = some ⟨.type "tuple", odJUST_ONE, .seq ⟨[.ref tJUST_ONE0, .ref tJUST_ONE1]⟩ nJUST_ONE, slJUST_ONE⟩)
    (wJUST_ONE0 : K.lookup tJUST_ONE0 = some ⟨.type "tuple", odJUST_ONE0, .seq ⟨[.bool true, .bool false]⟩ nJUST_ONE0, slJUST_ONE0⟩)
    (wJUST_ONE1 : K.lookup tJUST_ONE1 = some ⟨.type "tuple", odJUST_ONE1, .seq ⟨[.bool false, .bool true]⟩ nJUST_ONE1, slJUST_ONE1⟩)
    : ∃ fd : FuncData, (∀ (s : Shared) (v : Value), BindsTo s fd ⟨[v], []⟩ [("_law_script", v)]) ∧ ∀ base : Heap, K.In base → base.Ns mainGlobals mg → FnOk l.prog w K mg base CX0 9 fa fd ["_law_script"] (spLaw K) := by
  have e := hfa.symm.trans (PySem.W.mg_of X G a22)
  cases e
  have B : Bi mg := ⟨PySem.W.mg_none_of X G z_isinstance, PySem.W.mg_none_of X G z_int, PySem.W.mg_none_of X G z_bool, PySem.W.mg_none_of X G z_tuple, PySem.W.mg_none_of X G z_all, PySem.W.mg_none_of X G z_zip, PySem.W.mg_none_of X G z_min, PySem.W.mg_none_of X G z_max, PySem.W.mg_none_of X G z_range, PySem.W.mg_none_of X G z_sorted, PySem.W.mg_none_of X G z_len, PySem.W.mg_none_of X G z_abs⟩
  have T : Cl K C := ⟨⟨pg, hd, po, sa⟩, n_own_period, n_own_rests, n_own_first, n_own_few, n_own_begins⟩
  have I : Ci K C := ⟨ha, hn, htk, hm⟩
  have mC := PySem.W.mg_of X G aC
  have M : Mk K C f23 := ⟨mk, a23, i23, kc⟩
  have F1 := fun_mk (st := sIsInteger) l1 c1 k1
  have b1 := F1.binds (ps := ["value"]) fun _ _ _ _ _ _ us hl => match us, hl with | [_], _ => rfl
  have F2 := fun_mk (st := sIsBelow) l2 c2 k2
  have b2 := F2.binds (ps := ["value", "limit"]) fun _ _ _ _ _ _ us hl => match us, hl with | [_, _], _ => rfl
  have F3 := fun_mk (st := sIsAscending) l3 c3 k3
  have b3 := F3.binds (ps := ["items"]) fun _ _ _ _ _ _ us hl => match us, hl with | [_], _ => rfl
  have F4 := fun_mk (st := sAreBelow) l4 c4 k4
  have b4 := F4.binds (ps := ["value", "limit"]) fun _ _ _ _ _ _ us hl => match us, hl with | [_, _], _ => rfl
  have F5 := fun_mk (st := sHasPeriod) l5 c5 k5
  have b5 := F5.binds (ps := ["rests", "period", "less"]) fun _ _ _ _ _ _ us hl => match us, hl with | [_, _, _], _ => rfl
  have F6 := fun_mk (st := sLeastPeriod) l6 c6 k6
  have b6 := F6.binds (ps := ["rests", "period"]) fun _ _ _ _ _ _ us hl => match us, hl with | [_, _], _ => rfl
  have F7 := fun_mk (st := sLeastFirst) l7 c7 k7
  have b7 := F7.binds (ps := ["few", "first", "period", "rests"]) fun _ _ _ _ _ _ us hl => match us, hl with | [_, _, _, _], _ => rfl
  have F8 := fun_mk (st := sDivisor) l8 c8 k8
  have b8 := F8.binds (ps := ["one", "other"]) fun _ _ _ _ _ _ us hl => match us, hl with | [_, _], _ => rfl
  have F9 := fun_mk (st := sBegins) l9 c9 k9
  have b9 := F9.binds (ps := ["first", "period", "rests"]) fun _ _ _ _ _ _ us hl => match us, hl with | [_, _, _], _ => rfl
  have F10 := fun_mk (st := sRequire) l10 c10 k10
  have b10 := F10.binds (ps := ["value"]) fun _ _ _ _ _ _ us hl => match us, hl with | [_], _ => rfl
  have F11 := fun_mk (st := sHas) l11 c11 k11
  have b11 := F11.binds (ps := ["limits", "number"]) fun _ _ _ _ _ _ us hl => match us, hl with | [_, _], _ => rfl
  have F12 := fun_mk (st := sJoined) l12 c12 k12
  have b12 := F12.binds (ps := ["one", "other", "wanted"]) fun _ _ _ _ _ _ us hl => match us, hl with | [_, _, _], _ => rfl
  have F13 := fun_mk (st := sUrn) l13 c13 k13
  have b13 := F13.binds (ps := ["_law_script", "_law_spot"]) fun _ _ _ _ _ _ us hl => match us, hl with | [_, _], _ => rfl
  have F14 := fun_mk (st := sToss) l14 c14 k14
  have b14 := F14.binds (ps := ["_law_urn_here", "_law_size"]) fun _ _ _ _ _ _ us hl => match us, hl with | [_, _], _ => rfl
  have F15 := fun_mk (st := sPick) l15 c15 k15
  have b15 := F15.binds (ps := ["_law_urn_here", "_law_items"]) fun _ _ _ _ _ _ us hl => match us, hl with | [_, _], _ => rfl
  have F16 := fun_mk (st := sDrawn) l16 c16 k16
  have b16 := F16.binds (ps := ["_law_urn_here"]) fun _ _ _ _ _ _ us hl => match us, hl with | [_], _ => rfl
  have F17 := fun_mk (st := sLHas) l17 c17 k17
  have b17 := F17.binds (ps := ["_law_parts", "_law_number"]) fun _ _ _ _ _ _ us hl => match us, hl with | [_, _], _ => rfl
  have F18 := fun_mk (st := sLLimits) l18 c18 k18
  have b18 := F18.binds (ps := ["_law_parts"]) fun _ _ _ _ _ _ us hl => match us, hl with | [_], _ => rfl
  have F19 := fun_mk (st := sDue) l19 c19 k19
  have b19 := F19.binds (ps := ["_law_way", "_law_one", "_law_other"]) fun _ _ _ _ _ _ us hl => match us, hl with | [_, _, _], _ => rfl
  have F20 := fun_mk (st := sIsBy) l20 c20 k20
  have b20 := F20.binds (ps := ["_law_found", "_law_some", "_law_way"]) fun _ _ _ _ _ _ us hl => match us, hl with | [_, _, _], _ => rfl
  have F21 := fun_mk (st := sRight) l21 c21 k21
  have b21 := F21.binds (ps := ["_law_urn_here"]) fun _ _ _ _ _ _ us hl => match us, hl with | [_], _ => rfl
  have F22 := fun_mk (st := sLaw) l22 c22 k22
  have b22 := F22.binds (ps := ["_law_script"]) fun _ _ _ _ _ _ us hl => match us, hl with | [_], _ => rfl
  have F23 := fun_mk (st := sInit) l23 c23 k23
  have b23 := F23.binds (ps := ["self", "few", "first", "period", "rests"]) fun _ _ _ _ _ _ us hl => match us, hl with | [_, _, _, _, _], _ => rfl
  have F24 := fun_mk (st := sWithin) l24 c24 k24
  have b24 := F24.binds (ps := ["self", "other"]) fun _ _ _ _ _ _ us hl => match us, hl with | [_, _], _ => rfl
  have F25 := fun_mk (st := sAnd) l25 c25 k25
  have b25 := F25.binds (ps := ["self", "other"]) fun _ _ _ _ _ _ us hl => match us, hl with | [_, _], _ => rfl
  have F26 := fun_mk (st := sOr) l26 c26 k26
  have b26 := F26.binds (ps := ["self", "other"]) fun _ _ _ _ _ _ us hl => match us, hl with | [_, _], _ => rfl
  have F27 := fun_mk (st := sSub) l27 c27 k27
  have b27 := F27.binds (ps := ["self", "other"]) fun _ _ _ _ _ _ us hl => match us, hl with | [_, _], _ => rfl
  have F28 := fun_mk (st := sXor) l28 c28 k28
  have b28 := F28.binds (ps := ["self", "other"]) fun _ _ _ _ _ _ us hl => match us, hl with | [_, _], _ => rfl
  have F29 := fun_mk (st := sInvert) l29 c29 k29
  have b29 := F29.binds (ps := ["self"]) fun _ _ _ _ _ _ us hl => match us, hl with | [_], _ => rfl
  have F30 := fun_mk (st := sContains) l30 c30 k30
  have b30 := F30.binds (ps := ["self", "value"]) fun _ _ _ _ _ _ us hl => match us, hl with | [_, _], _ => rfl
  have F31 := fun_mk (st := sBool) l31 c31 k31
  have b31 := F31.binds (ps := ["self"]) fun _ _ _ _ _ _ us hl => match us, hl with | [_], _ => rfl
  have F32 := fun_mk (st := sEq) l32 c32 k32
  have b32 := F32.binds (ps := ["self", "other"]) fun _ _ _ _ _ _ us hl => match us, hl with | [_, _], _ => rfl
  have F33 := fun_mk (st := sEvery) l33 c33 k33
  have b33 := F33.binds (ps := ["cls"]) fun _ _ _ _ _ _ us hl => match us, hl with | [_], _ => rfl
  have F34 := fun_mk (st := sNone) l34 c34 k34
  have b34 := F34.binds (ps := ["cls"]) fun _ _ _ _ _ _ us hl => match us, hl with | [_], _ => rfl
  have hT : ∃ u, mg "TOP" = some u ∧ RelV (.int (10 ^ 40)) u := ⟨_, PySem.W.mg_of X G uT, tk1, rfl⟩
  have hM : ∃ u, mg "MAX_PERIOD" = some u ∧ RelV (nv 2000) u := ⟨_, PySem.W.mg_of X G uM, tk2, rfl⟩
  have qBOTH : ∃ u, mg "BOTH" = some u ∧ RelV (.ref tBOTH) u := ⟨_, PySem.W.mg_of X G vBOTH, rfl⟩
  have WBOTH := want_BOTH wBOTH0 wBOTH
  have qANY : ∃ u, mg "ANY" = some u ∧ RelV (.ref tANY) u := ⟨_, PySem.W.mg_of X G vANY, rfl⟩
  have WANY := want_ANY wANY0 wANY1 wANY2 wANY
  have qONE_ALONE : ∃ u, mg "ONE_ALONE" = some u ∧ RelV (.ref tONE_ALONE) u := ⟨_, PySem.W.mg_of X G vONE_ALONE, rfl⟩
  have WONE_ALONE := want_ONE_ALONE wONE_ALONE0 wONE_ALONE
  have qJUST_ONE : ∃ u, mg "JUST_ONE" = some u ∧ RelV (.ref tJUST_ONE) u := ⟨_, PySem.W.mg_of X G vJUST_ONE, rfl⟩
  have WJUST_ONE := want_JUST_ONE wJUST_ONE0 wJUST_ONE1 wJUST_ONE
  refine ⟨PySem.W.fnOf "law" "law" (defArgs sLaw) (defBody sLaw) (defScope sLaw) .none kV22 dc22 pm22 an22 cd22 ct22, fun s v => .of_eq rfl, fun base _ _ => ?_⟩
  have g1 : FnOk l.prog w K mg base CX0 1 f1 _ ["value"] (spInt) := ok_int F1 B hT
  have c_is_integer := cal_of g1 (PySem.W.mg_of X G a1) k1 b1
  have g2 : FnOk l.prog w K mg base CX0 2 f2 _ ["value", "limit"] (spBelow) := ok_below F2 c_is_integer
  have c_is_below := cal_of g2 (PySem.W.mg_of X G a2) k2 b2
  have g3 : FnOk l.prog w K mg base CX0 1 f3 _ ["items"] (spAsc) := ok_asc F3 B
  have c_is_ascending := cal_of g3 (PySem.W.mg_of X G a3) k3 b3
  have g4 : FnOk l.prog w K mg base CX0 3 f4 _ ["value", "limit"] (spAre) := ok_are F4 B c_is_below c_is_ascending
  have c_are_below := cal_of g4 (PySem.W.mg_of X G a4) k4 b4
  have g8 : FnOk l.prog w K mg base CX0 1 f8 _ ["one", "other"] (spDiv) := ok_div F8
  have c_greatest_divisor := cal_of g8 (PySem.W.mg_of X G a8) k8 b8
  have g9 : FnOk l.prog w K mg base CX0 1 f9 _ ["first", "period", "rests"] (spBegins) := ok_begins F9 B
  have c_begins_of := cal_of g9 (PySem.W.mg_of X G a9) k9 b9
  have g5 : FnOk l.prog w K mg base CX0 1 f5 _ ["rests", "period", "less"] (spHasP) := ok_hasP F5 B
  have c_has_period := cal_of g5 (PySem.W.mg_of X G a5) k5 b5
  have g6 : FnOk l.prog w K mg base CX0 2 f6 _ ["rests", "period"] (spLeast) := ok_least F6 B c_has_period
  have c_least_period := cal_of g6 (PySem.W.mg_of X G a6) k6 b6
  have g7 : FnOk l.prog w K mg base CX0 1 f7 _ ["few", "first", "period", "rests"] (spFirst) := ok_first F7 B
  have c_least_first := cal_of g7 (PySem.W.mg_of X G a7) k7 b7
  have g23 : FnOk l.prog w K mg base CX0 4 f23 _ ["self", "few", "first", "period", "rests"] (spInit C) := ok_init F23 B T hM c_is_below c_are_below c_least_period c_least_first c_begins_of
  have cM : C8.Mak l.prog w K mg base 4 "Limits" C (spInit C) [] := ⟨f23, _, _, [], M, g23, mC, b23, .nil⟩
  have g11 : FnOk l.prog w K mg base CX0 1 f11 _ ["limits", "number"] (spHas C) := ok_has F11 T
  have c_has_number := cal_of g11 (PySem.W.mg_of X G a11) k11 b11
  have g10 : FnOk l.prog w K mg base CX0 1 f10 _ ["value"] (spReq C) := ok_req F10 B T I mC
  have c_require_limits := cal_of g10 (PySem.W.mg_of X G a10) k10 b10
  have g12 : FnOk l.prog w K mg base CX0 6 f12 _ ["one", "other", "wanted"] (spJoin K C) := ok_join F12 B T hM c_require_limits c_greatest_divisor c_has_number cM
  have c_joined := cal_of g12 (PySem.W.mg_of X G a12) k12 b12
  have g25 : FnOk l.prog w K mg base CX0 7 f25 _ ["self", "other"] (spOp2 C (fun s t => s && t)) := ok_and F25 c_joined qBOTH WBOTH
  have g26 : FnOk l.prog w K mg base CX0 7 f26 _ ["self", "other"] (spOp2 C (fun s t => s || t)) := ok_or F26 c_joined qANY WANY
  have g27 : FnOk l.prog w K mg base CX0 7 f27 _ ["self", "other"] (spOp2 C (fun s t => s && !t)) := ok_sub F27 c_joined qONE_ALONE WONE_ALONE
  have g28 : FnOk l.prog w K mg base CX0 7 f28 _ ["self", "other"] (spOp2 C (fun s t => s != t)) := ok_xor F28 c_joined qJUST_ONE WJUST_ONE
  have g31 : FnOk l.prog w K mg base CX0 1 f31 _ ["self"] (spBool C) := ok_bool F31 B T
  have oB : Own l.prog w K mg base 1 C "__bool__" (spBool C) := ⟨f31, _, _, a31, i31, k31, g31, b31⟩
  have g24 : FnOk l.prog w K mg base CX0 7 f24 _ ["self", "other"] (spWithin C) := ok_within F24 B c_joined oB qONE_ALONE WONE_ALONE
  have g29 : FnOk l.prog w K mg base CX0 6 f29 _ ["self"] (spInv C) := ok_inv F29 B T cM
  have g30 : FnOk l.prog w K mg base CX0 2 f30 _ ["self", "value"] (spCont C) := ok_cont F30 c_is_integer c_has_number
  have oC : Own l.prog w K mg base 2 C "__contains__" (spCont C) := ⟨f30, _, _, a30, i30, k30, g30, b30⟩
  have g32 : FnOk l.prog w K mg base CX0 1 f32 _ ["self", "other"] (spEqL C) := ok_eq F32 B T I mC
  have g33 : FnOk l.prog w K mg base CX0 6 f33 _ ["cls"] (spConst C true) := ok_every F33 M g23 b23
  have g34 : FnOk l.prog w K mg base CX0 6 f34 _ ["cls"] (spConst C false) := ok_none F34 M g23 b23
  have cm_every : CMe l.prog w K mg base 6 C "every" (spConst C true) := ⟨mc, p33, f33, _, _, ⟨rC, gC⟩, ⟨a33, ⟨_, r33⟩, i33⟩, g33, b33⟩
  have cm_none : CMe l.prog w K mg base 6 C "none" (spConst C false) := ⟨mc, p34, f34, _, _, ⟨rC, gC⟩, ⟨a34, ⟨_, r34⟩, i34⟩, g34, b34⟩
  have oAnd : Own l.prog w K mg base 7 C (PySem.dunder Operator.BitAnd.info.2) (spOp2 C (fun s t => s && t)) := by
    rw [show PySem.dunder Operator.BitAnd.info.2 = ("__and__" : Str) from by decide +kernel]
    exact ⟨f25, _, _, a25, i25, k25, g25, b25⟩
  have oOr : Own l.prog w K mg base 7 C (PySem.dunder Operator.BitOr.info.2) (spOp2 C (fun s t => s || t)) := by
    rw [show PySem.dunder Operator.BitOr.info.2 = ("__or__" : Str) from by decide +kernel]
    exact ⟨f26, _, _, a26, i26, k26, g26, b26⟩
  have oSub : Own l.prog w K mg base 7 C (PySem.dunder Operator.Sub.info.2) (spOp2 C (fun s t => s && !t)) := by
    rw [show PySem.dunder Operator.Sub.info.2 = ("__sub__" : Str) from by decide +kernel]
    exact ⟨f27, _, _, a27, i27, k27, g27, b27⟩
  have oXor : Own l.prog w K mg base 7 C (PySem.dunder Operator.BitXor.info.2) (spOp2 C (fun s t => s != t)) := by
    rw [show PySem.dunder Operator.BitXor.info.2 = ("__xor__" : Str) from by decide +kernel]
    exact ⟨f28, _, _, a28, i28, k28, g28, b28⟩
  have oInv : Own l.prog w K mg base 6 C "__invert__" (spInv C) := ⟨f29, _, _, a29, i29, k29, g29, b29⟩
  have oE : Own l.prog w K mg base 1 C "__eq__" (spEqL C) := ⟨f32, _, _, a32, i32, k32, g32, b32⟩
  have oW : Own l.prog w K mg base 7 C "is_within" (spWithin C) := ⟨f24, _, _, a24, i24, k24, g24, b24⟩
  have O : Ops l.prog w K mg base C := ⟨T, sf, ne, ob, mC, oAnd, oOr, oSub, oXor, oInv, oC, oB, oE, oW⟩
  have g13 : FnOk l.prog w K mg base CX0 1 f13 _ ["_law_script", "_law_spot"] (spUrn K) := ok_urn F13 B
  have c__law_urn := cal_of g13 (PySem.W.mg_of X G a13) k13 b13
  have g14 : FnOk l.prog w K mg base CX0 1 f14 _ ["_law_urn_here", "_law_size"] (spToss) := ok_toss F14 B
  have c__law_toss := cal_of g14 (PySem.W.mg_of X G a14) k14 b14
  have g15 : FnOk l.prog w K mg base CX0 2 f15 _ ["_law_urn_here", "_law_items"] (spPick) := ok_pick F15 B c__law_toss
  have c__law_pick := cal_of g15 (PySem.W.mg_of X G a15) k15 b15
  have g16 : FnOk l.prog w K mg base CX0 3 f16 _ ["_law_urn_here"] (spDrawn) := ok_drawn F16 B c__law_pick c__law_toss
  have c__law_drawn := cal_of g16 (PySem.W.mg_of X G a16) k16 b16
  have g17 : FnOk l.prog w K mg base CX0 1 f17 _ ["_law_parts", "_law_number"] (spLHas) := ok_lhas F17
  have c__law_has := cal_of g17 (PySem.W.mg_of X G a17) k17 b17
  have g18 : FnOk l.prog w K mg base CX0 6 f18 _ ["_law_parts"] (spLLim C) := ok_llim F18 cM
  have c__law_limits := cal_of g18 (PySem.W.mg_of X G a18) k18 b18
  have g19 : FnOk l.prog w K mg base CX0 1 f19 _ ["_law_way", "_law_one", "_law_other"] (spDue) := ok_due F19
  have c__law_due := cal_of g19 (PySem.W.mg_of X G a19) k19 b19
  have g20 : FnOk l.prog w K mg base CX0 3 f20 _ ["_law_found", "_law_some", "_law_way"] (spIsBy C) := ok_isby F20 B oC c__law_due c__law_has
  have c__law_is_by := cal_of g20 (PySem.W.mg_of X G a20) k20 b20
  have g21 : FnOk l.prog w K mg base CX0 8 f21 _ ["_law_urn_here"] (spRight) := ok_right F21 B O c__law_drawn c__law_limits c__law_is_by c__law_has cm_every cm_none
  have c__law_right := cal_of g21 (PySem.W.mg_of X G a21) k21 b21
  exact ok_law F22 B O c__law_urn c__law_right cM
theorem walk {l : PySem.W.OpenLaw} {q : Program} {loose : List Str} {XP : (Str → Option Value) → Heap → Prop} {YP : World → Heap → Prop} {d : DefRec} {K : Params → PySem.W.Frag} (hn : l.most = some 63) (hdf : d.params.defaults = [])
    (hY : ∀ (w : World) (h : Heap), YP w h → (K w.params).In h)
    (F : ∀ (w : World) (mg : Str → Option Value) (fa : Addr) (h : Heap), (K w.params).In h → h.Ns mainGlobals mg → mg d.name = some (.ref fa) →
      ∃ fd : FuncData, (∀ (s : Shared) (u : Value), BindsTo s fd ⟨[u], []⟩ [("_law_script", u)]) ∧ ∀ base : Heap, (K w.params).In base → base.Ns mainGlobals mg → FnOk l.prog w (K w.params) mg base CX0 9 fa fd ["_law_script"] (spLaw (K w.params))) :
    PySem.W.WalkO q loose XP YP l.row.toRowW d [] (fun f vs => PySem.call f vs) :=
  L2.walk_of (n := 63) (k := 9) (x := "_law_script") (CX := fun _ => CX0) (sp := fun w => spLaw (K w.params)) hn (by decide) hdf ⟨rfl, by decide, by decide⟩ hY F (fun _ _ a ns hl _ hS => ⟨a, ns, rfl, hS, hl, fun _ => rfl⟩) fun _ _ _ _ _ z => z
end K03


-- text K03Z
set_option Elab.async false
open PySem PySem.W PyProof.Rows
set_option maxRecDepth 100000 in
set_option maxHeartbeats 0 in
theorem PySem.Challenge.cw_deepenough_k03_whole_set_algebra_holds : PySem.Challenge.rw_deepenough_k03_whole_set_algebra.Holds := by
  w_on; o_law; k_head; (case hw => w_witness2)
  k_fill
  refine K03.walk (l := PySem.Challenge.rw_deepenough_k03_whole_set_algebra) rfl rfl (fun w h Y => PySem.W.kIn_of Y) ?F
  case F =>
    intro w mg fa h KX G hmg
    refine' K03.all_mk KX G hmg ?aC ?a1 ?l1 ?c1 ?k1 ?a2 ?l2 ?c2 ?k2 ?a3 ?l3 ?c3 ?k3 ?a4 ?l4 ?c4 ?k4 ?a5 ?l5 ?c5 ?k5 ?a6 ?l6 ?c6 ?k6 ?a7 ?l7 ?c7 ?k7 ?a8 ?l8 ?c8 ?k8 ?a9 ?l9 ?c9 ?k9 ?a10 ?l10 ?c10 ?k10 ?a11 ?l11 ?c11 ?k11 ?a12 ?l12 ?c12 ?k12 ?a13 ?l13 ?c13 ?k13 ?a14 ?l14 ?c14 ?k14 ?a15 ?l15 ?c15 ?k15 ?a16 ?l16 ?c16 ?k16 ?a17 ?l17 ?c17 ?k17 ?a18 ?l18 ?c18 ?k18 ?a19 ?l19 ?c19 ?k19 ?a20 ?l20 ?c20 ?k20 ?a21 ?l21 ?c21 ?k21 ?a22 ?l22 ?c22 ?k22 ?a23 ?i23 ?l23 ?c23 ?k23 ?a24 ?i24 ?l24 ?c24 ?k24 ?a25 ?i25 ?l25 ?c25 ?k25 ?a26 ?i26 ?l26 ?c26 ?k26 ?a27 ?i27 ?l27 ?c27 ?k27 ?a28 ?i28 ?l28 ?c28 ?k28 ?a29 ?i29 ?l29 ?c29 ?k29 ?a30 ?i30 ?l30 ?c30 ?k30 ?a31 ?i31 ?l31 ?c31 ?k31 ?a32 ?i32 ?l32 ?c32 ?k32 ?tC ?rC ?gC ?a33 ?r33 ?i33 ?l33 ?c33 ?k33 ?a34 ?r34 ?i34 ?l34 ?c34 ?k34 ?n_own_period ?n_own_rests ?n_own_first ?n_own_few ?n_own_begins ?pg ?hd ?po ?sa ?mk ?kc ?ha ?hn ?htk ?hm ?sf ?ne ?ob ?z_isinstance ?z_int ?z_bool ?z_tuple ?z_all ?z_zip ?z_min ?z_max ?z_range ?z_sorted ?z_len ?z_abs ?uT ?uM ?vBOTH ?wBOTH ?wBOTH0 ?vANY ?wANY ?wANY0 ?wANY1 ?wANY2 ?vONE_ALONE ?wONE_ALONE ?wONE_ALONE0 ?vJUST_ONE ?wJUST_ONE ?wJUST_ONE0 ?wJUST_ONE1
    (case aC => k_is)
    (case a1 => k_is)
    (case l1 => k_is)
    (case c1 => k_is)
    (case k1 => k_is)
    (case a2 => k_is)
    (case l2 => k_is)
    (case c2 => k_is)
    (case k2 => k_is)
    (case a3 => k_is)
    (case l3 => k_is)
    (case c3 => k_is)
    (case k3 => k_is)
    (case a4 => k_is)
    (case l4 => k_is)
    (case c4 => k_is)
    (case k4 => k_is)
    (case a5 => k_is)
    (case l5 => k_is)
    (case c5 => k_is)
    (case k5 => k_is)
    (case a6 => k_is)
    (case l6 => k_is)
    (case c6 => k_is)
    (case k6 => k_is)
    (case a7 => k_is)
    (case l7 => k_is)
    (case c7 => k_is)
    (case k7 => k_is)
    (case a8 => k_is)
    (case l8 => k_is)
    (case c8 => k_is)
    (case k8 => k_is)
    (case a9 => k_is)
    (case l9 => k_is)
    (case c9 => k_is)
    (case k9 => k_is)
    (case a10 => k_is)
    (case l10 => k_is)
    (case c10 => k_is)
    (case k10 => k_is)
    (case a11 => k_is)
    (case l11 => k_is)
    (case c11 => k_is)
    (case k11 => k_is)
    (case a12 => k_is)
    (case l12 => k_is)
    (case c12 => k_is)
    (case k12 => k_is)
    (case a13 => k_is)
    (case l13 => k_is)
    (case c13 => k_is)
    (case k13 => k_is)
    (case a14 => k_is)
    (case l14 => k_is)
    (case c14 => k_is)
    (case k14 => k_is)
    (case a15 => k_is)
    (case l15 => k_is)
    (case c15 => k_is)
    (case k15 => k_is)
    (case a16 => k_is)
    (case l16 => k_is)
    (case c16 => k_is)
    (case k16 => k_is)
    (case a17 => k_is)
    (case l17 => k_is)
    (case c17 => k_is)
    (case k17 => k_is)
    (case a18 => k_is)
    (case l18 => k_is)
    (case c18 => k_is)
    (case k18 => k_is)
    (case a19 => k_is)
    (case l19 => k_is)
    (case c19 => k_is)
    (case k19 => k_is)
    (case a20 => k_is)
    (case l20 => k_is)
    (case c20 => k_is)
    (case k20 => k_is)
    (case a21 => k_is)
    (case l21 => k_is)
    (case c21 => k_is)
    (case k21 => k_is)
    (case a22 => k_is)
    (case l22 => k_is)
    (case c22 => k_is)
    (case k22 => k_is)
    (case a23 => k_is)
    (case i23 => k_is)
    (case l23 => k_is)
    (case c23 => k_is)
    (case k23 => k_is)
    (case a24 => k_is)
    (case i24 => k_is)
    (case l24 => k_is)
    (case c24 => k_is)
    (case k24 => k_is)
    (case a25 => k_is)
    (case i25 => k_is)
    (case l25 => k_is)
    (case c25 => k_is)
    (case k25 => k_is)
    (case a26 => k_is)
    (case i26 => k_is)
    (case l26 => k_is)
    (case c26 => k_is)
    (case k26 => k_is)
    (case a27 => k_is)
    (case i27 => k_is)
    (case l27 => k_is)
    (case c27 => k_is)
    (case k27 => k_is)
    (case a28 => k_is)
    (case i28 => k_is)
    (case l28 => k_is)
    (case c28 => k_is)
    (case k28 => k_is)
    (case a29 => k_is)
    (case i29 => k_is)
    (case l29 => k_is)
    (case c29 => k_is)
    (case k29 => k_is)
    (case a30 => k_is)
    (case i30 => k_is)
    (case l30 => k_is)
    (case c30 => k_is)
    (case k30 => k_is)
    (case a31 => k_is)
    (case i31 => k_is)
    (case l31 => k_is)
    (case c31 => k_is)
    (case k31 => k_is)
    (case a32 => k_is)
    (case i32 => k_is)
    (case l32 => k_is)
    (case c32 => k_is)
    (case k32 => k_is)
    (case tC => k_is)
    (case rC => k_is)
    (case gC => k_is)
    (case a33 => k_is)
    (case r33 => k_is)
    (case i33 => k_is)
    (case l33 => k_is)
    (case c33 => k_is)
    (case k33 => k_is)
    (case a34 => k_is)
    (case r34 => k_is)
    (case i34 => k_is)
    (case l34 => k_is)
    (case c34 => k_is)
    (case k34 => k_is)
    (case n_own_period => k_is)
    (case n_own_rests => k_is)
    (case n_own_first => k_is)
    (case n_own_few => k_is)
    (case n_own_begins => k_is)
    (case pg => k_is)
    (case hd => k_is)
    (case po => k_is)
    (case sa => k_is)
    (case mk => k_is)
    (case kc => k_is)
    (case ha => k_is)
    (case hn => k_is)
    (case htk => k_is)
    (case hm => k_is)
    (case sf => k_is)
    (case ne => k_is)
    (case ob => k_is)
    (case z_isinstance => k_is)
    (case z_int => k_is)
    (case z_bool => k_is)
    (case z_tuple => k_is)
    (case z_all => k_is)
    (case z_zip => k_is)
    (case z_min => k_is)
    (case z_max => k_is)
    (case z_range => k_is)
    (case z_sorted => k_is)
    (case z_len => k_is)
    (case z_abs => k_is)
    (case uT => k_is)
    (case uM => k_is)
    (case vBOTH => k_is)
    (case wBOTH => k_is)
    (case wBOTH0 => k_is)
    (case vANY => k_is)
    (case wANY => k_is)
    (case wANY0 => k_is)
    (case wANY1 => k_is)
    (case wANY2 => k_is)
    (case vONE_ALONE => k_is)
    (case wONE_ALONE => k_is)
    (case wONE_ALONE0 => k_is)
    (case vJUST_ONE => k_is)
    (case wJUST_ONE => k_is)
    (case wJUST_ONE0 => k_is)
    (case wJUST_ONE1 => k_is)
