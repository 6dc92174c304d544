import PyProof.Rows.All
import Wide.All
import OpenK.AllK
import Wide.FinOn
import PySem.Challenge.RW_pq0745_01
open PySem PySem.W PyProof.Rows
set_option Elab.async false
set_option maxRecDepth 100000
set_option maxHeartbeats 8000000
namespace Mine
open_top hd for PySem.Challenge.rw_pq0745_01
noncomputable abbrev PK (w : World) : Frag := Mine.hd.heap_39 w.params
noncomputable abbrev PV : Program := Mine.hd.view_39
noncomputable abbrev PL : List Str := looseW Mine.hd.view_39 [Str.ofString "pack", Str.ofString "from_ratio"]
noncomputable abbrev PP : Program := PySem.Challenge.rw_pq0745_01.row.prog
abbrev Led := List (Addr × Obj)

/-- what a call of a def hands back, from any frame: the result, and what it adds to the ledger -/
abbrev Cl (w : World) (mean : ExcName → Option Value) (mg mb : Str → Option Value) (d : Nat) (f : Addr) (news : Led) (vs : List Value) (Out : Value → Led → Prop) : Prop :=
  ∀ (dp un : Nat) (gd : Option (List Code)) (cn : Str) (cs : Scope) (a : Addr) (ccd : Value) (cl : List (Str × Addr)) (outer : List Env) (A₀ : Around) (base h₀ : Heap) (L : Addr) (m : Str → Option Value) (s : Shared) (Q E : Value → Shared → Prop),
    Below A₀ base outer h₀ → Fr h₀ L s.heap m → Frag.In (PK w) h₀ → News h₀ L s.heap news → Top PV PL mean mg mb h₀ → cs.kind = .function →
    dp + d < recursionLimit → un + 8 * d < cLine →
    (∀ (r : Value) (tl : Led) (h' : Heap) (tk' : Nat), Fr h₀ L h' m → News h₀ L h' (tl ++ news) → Out r tl → Q r { s with heap := h', toks := tk' }) →
      wpAny (model PP w) (ktrTop dp un gd cn cs L a ccd cl outer) (call (.ref f) vs) Q E s

end Mine
open PySem PySem.W PyProof.Rows PySem.Calls PySem.Spec
namespace Mine
abbrev ib (x : Int) : Nat := Builtin.Int.intBits x
theorem ib_def (x : Int) : ib x = if x = 0 then 0 else x.natAbs.log2 + 1 := by
  show Builtin.Int.intBits x = _
  unfold Builtin.Int.intBits
  simp only [beq_iff_eq]
/-- the figure's size, by powers -/
theorem ib_pos {x : Int} (h : 0 < x) : 0 < ib x ∧ (2:Int) ^ (ib x - 1) ≤ x ∧ x < 2 ^ (ib x) := by
  have e : ib x = x.natAbs.log2 + 1 := by rw [ib_def, if_neg (by omega)]
  have hn : x.natAbs ≠ 0 := by omega
  have h1 : 2 ^ x.natAbs.log2 ≤ x.natAbs := Nat.log2_self_le hn
  have h2 : x.natAbs < 2 ^ (x.natAbs.log2 + 1) := Nat.lt_log2_self
  refine ⟨by omega, ?_, ?_⟩
  · rw [e]
    have : ((2 ^ x.natAbs.log2 : Nat) : Int) ≤ (x.natAbs : Int) := Int.ofNat_le.mpr h1
    rw [Int.natCast_pow] at this
    have e3 : (x.natAbs : Int) = x := by omega
    rw [e3] at this
    exact this
  · rw [e]
    have : (x.natAbs : Int) < ((2 ^ (x.natAbs.log2 + 1) : Nat) : Int) := Int.ofNat_lt.mpr h2
    rw [Int.natCast_pow] at this
    have e3 : (x.natAbs : Int) = x := by omega
    rw [e3] at this
    exact this
theorem ib_le {x : Int} {m : Nat} (h0 : 0 ≤ x) (h : x < 2 ^ m) : ib x ≤ m := by
  rcases Int.lt_or_eq_of_le h0 with hp | rfl
  · rw [ib_def, if_neg (by omega)]
    have hn : x.natAbs ≠ 0 := by omega
    have : x.natAbs < 2 ^ m := by
      have e3 : (x.natAbs : Int) = x := by omega
      rw [← e3] at h
      have : ((2 : Int) ^ m) = ((2 ^ m : Nat) : Int) := by rw [Int.natCast_pow]; rfl
      rw [this] at h
      exact Int.ofNat_lt.mp h
    have := (Nat.log2_lt hn).mpr this
    omega
  · rw [ib_def]; simp
theorem p2pos (m : Nat) : (0:Int) < 2 ^ m := Int.pow_pos (by decide)
theorem p2mono {m n : Nat} (h : m ≤ n) : (2:Int) ^ m ≤ 2 ^ n := by
  have : ((2 ^ m : Nat) : Int) ≤ ((2 ^ n : Nat) : Int) := Int.ofNat_le.mpr (Nat.pow_le_pow_right (by decide) h)
  rw [Int.natCast_pow, Int.natCast_pow] at this
  exact this
theorem p2inj {m n : Nat} (h : (2:Int) ^ m < 2 ^ n) : m < n := by
  rcases Nat.lt_or_ge m n with q | q
  · exact q
  · have := p2mono q; omega
theorem lt_of_ib {x : Int} {m : Nat} (h : ib x ≤ m) : x < 2 ^ m := by
  by_cases hp : 0 < x
  · have := (ib_pos hp).2.2
    exact Int.lt_of_lt_of_le this (p2mono h)
  · have : (0:Int) < 2 ^ m := Int.pow_pos (by decide)
    omega
theorem ib_eq {x : Int} {m : Nat} (h1 : (2:Int) ^ m ≤ x) (h2 : x < 2 ^ (m + 1)) : ib x = m + 1 := by
  have hp : (0:Int) < 2 ^ m := Int.pow_pos (by decide)
  have hx : 0 < x := by omega
  have a := ib_le (Int.le_of_lt hx) h2
  have b : ¬ ib x ≤ m := fun q => by have := lt_of_ib q; omega
  omega
/-- not below nought, and of a size that the model bears -/
def Bk (x : Int) : Prop := 0 ≤ x ∧ ib x ≤ 1000000
theorem Bk.nn {x : Int} (h : Bk x) : 0 ≤ x := h.1
theorem bk_add {x n : Int} (h : Bk x) (hn : n ≤ 1000000) : (Builtin.Int.intBits x : Int) + n ≤ 2 ^ 27 := by
  have h2 : Builtin.Int.intBits x ≤ 1000000 := h.2
  omega
theorem bk_quo {x y : Int} (h : Bk x) (h2 : 0 < y) : Bk (x.fdiv y) :=
  ⟨Int.fdiv_nonneg h.1 (Int.le_of_lt h2), intBits_fdiv_le h.2⟩
theorem bk_fdiv {x : Int} {k : Nat} (h : Bk x) : Bk (x.fdiv (2 ^ k)) := bk_quo h (p2pos k)
theorem bk_small {x : Int} (h : 0 ≤ x) (h2 : x < 2 ^ 64) : Bk x := ⟨h, Nat.le_trans (ib_le (m := 64) h h2) (by decide)⟩
theorem bk_mul {x y : Int} (h : Bk x) (h2 : Bk y) : IntMulOk x y := IntMulOk.of_le h.2 h2.2 (by decide)
/-- a rounded shift, as round_shift reckons it -/
def rsh (m k : Int) (rest : Bool) : Int :=
  if 1 * 2 ^ (k - 1).toNat < m - m.fdiv (2 ^ k.toNat) * 2 ^ k.toNat ∨ (m - m.fdiv (2 ^ k.toNat) * 2 ^ k.toNat = 1 * 2 ^ (k - 1).toNat ∧ (rest = true ∨ (m.fdiv (2 ^ k.toNat)).fmod 2 = 1)) then m.fdiv (2 ^ k.toNat) + 1 else m.fdiv (2 ^ k.toNat)
section
variable {m k : Int} {rest : Bool}
theorem rsh1 (h : 1 * 2 ^ (k - 1).toNat < m - m.fdiv (2 ^ k.toNat) * 2 ^ k.toNat) : m.fdiv (2 ^ k.toNat) + 1 = rsh m k rest := by
  unfold rsh; rw [if_pos (.inl h)]
theorem rsh2 (h : m - m.fdiv (2 ^ k.toNat) * 2 ^ k.toNat = 1 * 2 ^ (k - 1).toNat) (h2 : rest = true) : m.fdiv (2 ^ k.toNat) + 1 = rsh m k rest := by
  unfold rsh; rw [if_pos (.inr ⟨h, .inl h2⟩)]
theorem rsh3 (h : m - m.fdiv (2 ^ k.toNat) * 2 ^ k.toNat = 1 * 2 ^ (k - 1).toNat) (h2 : (m.fdiv (2 ^ k.toNat)).fmod 2 = 1) : m.fdiv (2 ^ k.toNat) + 1 = rsh m k rest := by
  unfold rsh; rw [if_pos (.inr ⟨h, .inr h2⟩)]
theorem rsh4 (h : ¬ 1 * 2 ^ (k - 1).toNat < m - m.fdiv (2 ^ k.toNat) * 2 ^ k.toNat) (h2 : rest = false) (h3 : (m.fdiv (2 ^ k.toNat)).fmod 2 ≠ 1) : m.fdiv (2 ^ k.toNat) = rsh m k rest := by
  unfold rsh; rw [if_neg]; rintro (q | ⟨_, q | q⟩); exact h q; rw [h2] at q; cases q; exact h3 q
theorem rsh5 (h : ¬ 1 * 2 ^ (k - 1).toNat < m - m.fdiv (2 ^ k.toNat) * 2 ^ k.toNat) (h2 : m - m.fdiv (2 ^ k.toNat) * 2 ^ k.toNat ≠ 1 * 2 ^ (k - 1).toNat) : m.fdiv (2 ^ k.toNat) = rsh m k rest := by
  unfold rsh; rw [if_neg]; rintro (q | ⟨q, _⟩); exact h q; exact h2 q
end
/-- the form's own dict -/
abbrev formD (w : World) (eb fb bias top hidden least : Int) (k1 k2 k3 k4 k5 k6 v1 v2 v3 v4 v5 v6 : Tok) : Obj :=
  dictOf [{ hash := PyData.keyHash w.params (Str.ofString "exponent_bits"), key := Value.str (Str.ofString "exponent_bits") k1, val := Value.int eb v1 },
    { hash := PyData.keyHash w.params (Str.ofString "fraction_bits"), key := Value.str (Str.ofString "fraction_bits") k2, val := Value.int fb v2 },
    { hash := PyData.keyHash w.params (Str.ofString "bias"), key := Value.str (Str.ofString "bias") k3, val := Value.int bias v3 },
    { hash := PyData.keyHash w.params (Str.ofString "top"), key := Value.str (Str.ofString "top") k4, val := Value.int top v4 },
    { hash := PyData.keyHash w.params (Str.ofString "hidden"), key := Value.str (Str.ofString "hidden") k5, val := Value.int hidden v5 },
    { hash := PyData.keyHash w.params (Str.ofString "least"), key := Value.str (Str.ofString "least") k6, val := Value.int least v6 }] 6
theorem led_front {h₀ h : Heap} {L x d : Addr} {o o2 : Obj} {news : Led} (N : News h₀ L h news) (h1 : (x, o) ∈ news) (h2 : (d, o2) ∈ news) : News h₀ L h ((x, o) :: (d, o2) :: news) := by
  intro p hp
  rcases List.mem_cons.mp hp with rfl | hp
  · exact N _ h1
  · rcases List.mem_cons.mp hp with rfl | hp
    · exact N _ h2
    · exact N _ hp
/-- what pack reckons, from the kept figure and its place -/
def packW (eb top hidden least sign K P : Int) : Int :=
  if K = hidden * 2 ^ Int.toNat 1 then
    if top ≤ P + 1 - least + 1 then (sign * 2 ^ eb.toNat + top) * hidden + 0 else (sign * 2 ^ eb.toNat + (P + 1 - least + 1)) * hidden + (hidden - hidden)
  else if K < hidden then (sign * 2 ^ eb.toNat + 0) * hidden + K
  else if top ≤ P - least + 1 then (sign * 2 ^ eb.toNat + top) * hidden + 0 else (sign * 2 ^ eb.toNat + (P - least + 1)) * hidden + (K - hidden)
section
variable {eb top hidden least sign K P : Int}
theorem pw1 (h : K = hidden * 2 ^ Int.toNat 1) (h2 : top ≤ P + 1 - least + 1) : (sign * 2 ^ eb.toNat + top) * hidden + 0 = packW eb top hidden least sign K P := by
  unfold packW; rw [if_pos h, if_pos h2]
theorem pw2 (h : K = hidden * 2 ^ Int.toNat 1) (h2 : ¬ top ≤ P + 1 - least + 1) : (sign * 2 ^ eb.toNat + (P + 1 - least + 1)) * hidden + (hidden - hidden) = packW eb top hidden least sign K P := by
  unfold packW; rw [if_pos h, if_neg h2]
theorem pw3 (h : K ≠ hidden * 2 ^ Int.toNat 1) (h2 : K < hidden) : (sign * 2 ^ eb.toNat + 0) * hidden + K = packW eb top hidden least sign K P := by
  unfold packW; rw [if_neg h, if_pos h2]
theorem pw4 (h : K ≠ hidden * 2 ^ Int.toNat 1) (h2 : ¬ K < hidden) (h3 : top ≤ P - least + 1) : (sign * 2 ^ eb.toNat + top) * hidden + 0 = packW eb top hidden least sign K P := by
  unfold packW; rw [if_neg h, if_neg h2, if_pos h3]
theorem pw5 (h : K ≠ hidden * 2 ^ Int.toNat 1) (h2 : ¬ K < hidden) (h3 : ¬ top ≤ P - least + 1) : (sign * 2 ^ eb.toNat + (P - least + 1)) * hidden + (K - hidden) = packW eb top hidden least sign K P := by
  unfold packW; rw [if_neg h, if_neg h2, if_neg h3]
end
/-- the greater of two, as the walk writes it -/
abbrev mx (a b : Int) : Int := if b > a then b else a
def packV (eb fb top hidden least sign m e : Int) (rest : Bool) : Int :=
  packW eb top hidden least sign (rsh m (mx (e + ib m - fb - 1) least - e) rest) (mx (e + ib m - fb - 1) least)
/-- above nought, and not too great -/
def Bs (x : Int) : Prop := 0 < x ∧ ib x ≤ 50000
theorem Bs.bk {x : Int} (h : Bs x) : Bk x := ⟨Int.le_of_lt h.1, Nat.le_trans h.2 (by decide)⟩
theorem Bs.pos {x : Int} (h : Bs x) : 0 < x := h.1
theorem Bs.nn {x : Int} (h : Bs x) : 0 ≤ x := Int.le_of_lt h.1
/-- how far from_ratio shifts -/
abbrev rsft (fb over under : Int) : Int := mx (fb + 4 + ib under - ib over) 0
abbrev rquo (fb over under : Int) : Int := (over * 2 ^ (rsft fb over under).toNat).fdiv under
def ratioV (eb fb top hidden least sign over under : Int) : Int :=
  packV eb fb top hidden least sign (rquo fb over under) (0 - rsft fb over under) (rquo fb over under * under != over * 2 ^ (rsft fb over under).toNat)
theorem mul_bits {x y : Int} {m n : Nat} (h : ib x ≤ m) (h2 : ib y ≤ n) : ib (x * y) ≤ m + n := intBits_mul_le h h2
theorem two_bits (n : Nat) : ib ((2:Int) ^ n) = n + 1 := ib_eq (Int.le_refl _) (by rw [Int.pow_succ]; have := p2pos n; omega)
theorem bk_shl {x : Int} {n : Int} (h : Bs x) (hn : n ≤ 100000) : Bk (x * 2 ^ n.toNat) := by
  refine ⟨Int.mul_nonneg (Int.le_of_lt h.1) (Int.le_of_lt (p2pos _)), ?_⟩
  have := mul_bits h.2 (Nat.le_of_eq (two_bits n.toNat))
  omega
theorem rsft_nn (fb over under : Int) : 0 ≤ rsft fb over under := by unfold rsft mx; split <;> omega
theorem rsft_le {fb over under : Int} (f2 : fb ≤ 9) (h2 : Bs under) : rsft fb over under ≤ 100000 := by
  have := h2.2
  unfold rsft mx; split <;> omega
theorem rsft_ge (fb over under : Int) : fb + 4 + ib under ≤ ib over + rsft fb over under := by
  unfold rsft mx; split <;> omega
theorem rq_bk {fb over under : Int} (f2 : fb ≤ 9) (h1 : Bs over) (h2 : Bs under) : Bk (rquo fb over under) :=
  bk_quo (bk_shl h1 (rsft_le f2 h2)) h2.1
theorem rq_ge {fb over under : Int} (f1 : 3 ≤ fb) (h1 : Bs over) (h2 : Bs under) : (2:Int) ^ (fb.toNat + 3) ≤ rquo fb over under := by
  have a := ib_pos h1.1
  have b := ib_pos h2.1
  have g := rsft_ge fb over under
  have nn := rsft_nn fb over under
  have hu := h2.1
  unfold rquo
  generalize rsft fb over under = s at *
  have hle : fb.toNat + 3 + ib under ≤ (ib over - 1) + s.toNat := by omega
  have e1 : (2:Int) ^ (fb.toNat + 3) * 2 ^ (ib under) ≤ 2 ^ (ib over - 1) * 2 ^ s.toNat := by
    rw [← Int.pow_add, ← Int.pow_add]; exact p2mono hle
  have e2 : (2:Int) ^ (ib over - 1) * 2 ^ s.toNat ≤ over * 2 ^ s.toNat := Int.mul_le_mul_of_nonneg_right a.2.1 (Int.le_of_lt (p2pos _))
  have e3 : (2:Int) ^ (fb.toNat + 3) * under ≤ 2 ^ (fb.toNat + 3) * 2 ^ (ib under) := Int.mul_le_mul_of_nonneg_left (Int.le_of_lt b.2.2) (Int.le_of_lt (p2pos _))
  have e4 : (2:Int) ^ (fb.toNat + 3) * under ≤ over * 2 ^ s.toNat := Int.le_trans e3 (Int.le_trans e1 e2)
  rw [Int.fdiv_eq_ediv_of_nonneg _ (Int.le_of_lt hu)]
  exact (Int.le_ediv_iff_mul_le hu).mpr e4
theorem rq_pos {fb over under : Int} (f1 : 3 ≤ fb) (h1 : Bs over) (h2 : Bs under) : 0 < rquo fb over under := Int.lt_of_lt_of_le (p2pos _) (rq_ge f1 h1 h2)
theorem rq_bits {fb over under : Int} (f1 : 3 ≤ fb) (h1 : Bs over) (h2 : Bs under) : fb + 2 ≤ ib (rquo fb over under) := by
  have g := rq_ge f1 h1 h2
  have l := lt_of_ib (x := rquo fb over under) (Nat.le_refl _)
  have := p2inj (Int.lt_of_le_of_lt g l)
  omega
/-- to the nearest whole number, a tie to the even one -/
def rne (a b : Int) : Int := if b < 2 * (a - a.fdiv b * b) ∨ (2 * (a - a.fdiv b * b) = b ∧ (a.fdiv b).fmod 2 = 1) then a.fdiv b + 1 else a.fdiv b
def near (over under k : Int) : Int := if 0 ≤ k then rne over (under * 2 ^ k.toNat) else rne (over * 2 ^ (0 - k).toNat) under
section
variable {over under k a b : Int}
theorem rne1 (h : b < 2 * (a - a.fdiv b * b)) : a.fdiv b + 1 = rne a b := by unfold rne; rw [if_pos (.inl h)]
theorem rne2 (h : 2 * (a - a.fdiv b * b) = b) (h2 : (a.fdiv b).fmod 2 = 1) : a.fdiv b + 1 = rne a b := by unfold rne; rw [if_pos (.inr ⟨h, h2⟩)]
theorem rne3 (h : ¬ b < 2 * (a - a.fdiv b * b)) (h2 : (a.fdiv b).fmod 2 ≠ 1) : a.fdiv b = rne a b := by
  unfold rne; rw [if_neg]; rintro (q | ⟨_, q⟩); exact h q; exact h2 q
theorem rne4 (h : ¬ b < 2 * (a - a.fdiv b * b)) (h2 : 2 * (a - a.fdiv b * b) ≠ b) : a.fdiv b = rne a b := by
  unfold rne; rw [if_neg]; rintro (q | ⟨q, _⟩); exact h q; exact h2 q
theorem near1 {z : Int} (h : 0 ≤ k) (e : z = rne over (under * 2 ^ k.toNat)) : z = near over under k := by unfold near; rw [if_pos h]; exact e
theorem near2 {z : Int} (h : ¬ 0 ≤ k) (e : z = rne (over * 2 ^ (0 - k).toNat) under) : z = near over under k := by unfold near; rw [if_neg h]; exact e
end
/-- the whole part of the figure's place: 2 to it is not above over / under -/
def flo (over under : Int) : Int :=
  if 0 ≤ (ib over : Int) - ib under then (if over < under * 2 ^ ((ib over : Int) - ib under).toNat then (ib over : Int) - ib under - 1 else (ib over : Int) - ib under)
  else (if over * 2 ^ (0 - ((ib over : Int) - ib under)).toNat < under then (ib over : Int) - ib under - 1 else (ib over : Int) - ib under)
/-- what _law_bits reckons, from the kept figure and its place -/
def bitsW (eb fb bias K P : Int) : Int :=
  if K = 2 ^ (fb + 1).toNat then
    (if 2 ^ eb.toNat - 1 ≤ P + 1 + bias then (2 ^ eb.toNat - 1) * 2 ^ fb.toNat else (P + 1 + bias) * 2 ^ fb.toNat + 2 ^ fb.toNat - 2 ^ fb.toNat)
  else if K < 2 ^ fb.toNat then K
  else if 2 ^ eb.toNat - 1 ≤ P + bias then (2 ^ eb.toNat - 1) * 2 ^ fb.toNat else (P + bias) * 2 ^ fb.toNat + K - 2 ^ fb.toNat
def lawBits (eb fb over under : Int) : Int :=
  bitsW eb fb (2 ^ (eb - 1).toNat - 1) (near over under (mx (flo over under) (1 - (2 ^ (eb - 1).toNat - 1)) - fb)) (mx (flo over under) (1 - (2 ^ (eb - 1).toNat - 1)))
section
variable {over under eb fb bias K P : Int}
theorem flo1 (h : 0 ≤ (ib over : Int) - ib under) (h2 : over < under * 2 ^ ((ib over : Int) - ib under).toNat) : flo over under = (ib over : Int) - ib under - 1 := by unfold flo; rw [if_pos h, if_pos h2]
theorem flo2 (h : 0 ≤ (ib over : Int) - ib under) (h2 : ¬ over < under * 2 ^ ((ib over : Int) - ib under).toNat) : flo over under = (ib over : Int) - ib under := by unfold flo; rw [if_pos h, if_neg h2]
theorem flo3 (h : ¬ 0 ≤ (ib over : Int) - ib under) (h2 : over * 2 ^ (0 - ((ib over : Int) - ib under)).toNat < under) : flo over under = (ib over : Int) - ib under - 1 := by unfold flo; rw [if_neg h, if_pos h2]
theorem flo4 (h : ¬ 0 ≤ (ib over : Int) - ib under) (h2 : ¬ over * 2 ^ (0 - ((ib over : Int) - ib under)).toNat < under) : flo over under = (ib over : Int) - ib under := by unfold flo; rw [if_neg h, if_neg h2]
theorem lb_of {f : Int} (hf : flo over under = f) : lawBits eb fb over under = bitsW eb fb (2 ^ (eb - 1).toNat - 1) (near over under (mx f (1 - (2 ^ (eb - 1).toNat - 1)) - fb)) (mx f (1 - (2 ^ (eb - 1).toNat - 1))) := by
  unfold lawBits; rw [hf]
theorem bw1 (h : K = 2 ^ (fb + 1).toNat) (h2 : 2 ^ eb.toNat - 1 ≤ P + 1 + bias) : (2 ^ eb.toNat - 1) * 2 ^ fb.toNat = bitsW eb fb bias K P := by unfold bitsW; rw [if_pos h, if_pos h2]
theorem bw2 (h : K = 2 ^ (fb + 1).toNat) (h2 : ¬ 2 ^ eb.toNat - 1 ≤ P + 1 + bias) : (P + 1 + bias) * 2 ^ fb.toNat + 2 ^ fb.toNat - 2 ^ fb.toNat = bitsW eb fb bias K P := by unfold bitsW; rw [if_pos h, if_neg h2]
theorem bw3 (h : K ≠ 2 ^ (fb + 1).toNat) (h2 : K < 2 ^ fb.toNat) : K = bitsW eb fb bias K P := by unfold bitsW; rw [if_neg h, if_pos h2]
theorem bw4 (h : K ≠ 2 ^ (fb + 1).toNat) (h2 : ¬ K < 2 ^ fb.toNat) (h3 : 2 ^ eb.toNat - 1 ≤ P + bias) : (2 ^ eb.toNat - 1) * 2 ^ fb.toNat = bitsW eb fb bias K P := by unfold bitsW; rw [if_neg h, if_neg h2, if_pos h3]
theorem bw5 (h : K ≠ 2 ^ (fb + 1).toNat) (h2 : ¬ K < 2 ^ fb.toNat) (h3 : ¬ 2 ^ eb.toNat - 1 ≤ P + bias) : (P + bias) * 2 ^ fb.toNat + K - 2 ^ fb.toNat = bitsW eb fb bias K P := by unfold bitsW; rw [if_neg h, if_neg h2, if_neg h3]
end
theorem two_eb {eb : Int} (h1 : 14 ≤ eb) (h2 : eb ≤ 16) : (8192 : Int) ≤ 2 ^ (eb - 1).toNat ∧ (2 : Int) ^ (eb - 1).toNat ≤ 32768 ∧ (2 : Int) ^ eb.toNat = 2 * 2 ^ (eb - 1).toNat := by
  have : eb = 14 ∨ eb = 15 ∨ eb = 16 := by omega
  rcases this with rfl | rfl | rfl <;> decide
theorem two_fb {fb : Int} (h1 : 3 ≤ fb) (h2 : fb ≤ 9) : (8 : Int) ≤ 2 ^ fb.toNat ∧ (2 : Int) ^ fb.toNat ≤ 512 ∧ (2 : Int) ^ (fb + 1).toNat = 2 * 2 ^ fb.toNat := by
  have : fb = 3 ∨ fb = 4 ∨ fb = 5 ∨ fb = 6 ∨ fb = 7 ∨ fb = 8 ∨ fb = 9 := by omega
  rcases this with rfl | rfl | rfl | rfl | rfl | rfl | rfl <;> decide
theorem mx1 {a b e : Int} (h : 1 ≤ a - e) : 1 ≤ (if b > a then b else a) - e := by split <;> omega
theorem mx2 {a b e : Int} (h : a - e ≤ 1000000) (h2 : b - e ≤ 1000000) : (if b > a then b else a) - e ≤ 1000000 := by split <;> omega
/-- the bounds of a form -/
structure FormB (eb fb top hidden least : Int) : Prop where
  e1 : 14 ≤ eb
  e2 : eb ≤ 16
  f1 : 3 ≤ fb
  f2 : fb ≤ 9
  h1 : 0 < hidden
  h2 : hidden ≤ 512
  l1 : -40000 ≤ least
  l2 : least ≤ 0
  t1 : 16383 ≤ top
  t2 : top ≤ 70000
section
variable {prog : Program} {w : World} {A : Around} {E : Value → Shared → Prop} {s : Shared} {x y : Str} {t u : Tok} {Q : Value → Shared → Prop}
theorem eqs_t (h : (x.cps.toList == y.cps.toList) = true) (hq : Q (.bool true) s) : wpAny (model prog w) A (compareOp .Eq (.str x t) (.str y u)) Q E s := P.eq_str (by rw [h]; exact hq)
theorem eqs_f (h : (x.cps.toList == y.cps.toList) = false) (hq : Q (.bool false) s) : wpAny (model prog w) A (compareOp .Eq (.str x t) (.str y u)) Q E s := P.eq_str (by rw [h]; exact hq)
theorem noteqs_t (h : (x.cps.toList != y.cps.toList) = true) (hq : Q (.bool true) s) : wpAny (model prog w) A (compareOp .NotEq (.str x t) (.str y u)) Q E s := P.ne_str (by rw [h]; exact hq)
theorem noteqs_f (h : (x.cps.toList != y.cps.toList) = false) (hq : Q (.bool false) s) : wpAny (model prog w) A (compareOp .NotEq (.str x t) (.str y u)) Q E s := P.ne_str (by rw [h]; exact hq)
end
def isDg (c : Nat) : Bool := 48 ≤ c && c ≤ 57
/-- where the figures end -/
def dend (cs : List Nat) (n : Nat) : Nat := n + ((cs.drop n).takeWhile isDg).length
abbrev digs (x : Str) : List Nat := x.cps.toList
def expf (far : Int) (d : List Nat) : Int := if 6 < (d.length : Int) ∨ far < (NumText.digitsVal (d.take 6) : Int) then far + 1 else (NumText.digitsVal (d.take 6) : Int)
section
variable {far : Int} {d : List Nat} {v : Nat}
theorem expf1 (h : 6 < (d.length : Int)) : far + 1 = expf far d := by unfold expf; rw [if_pos (.inl h)]
theorem expf2 (e : v = NumText.digitsVal (d.take 6)) (h : far < (v : Int)) : far + 1 = expf far d := by unfold expf; rw [if_pos (.inr (by rw [← e]; exact h))]
theorem expf3 (e : v = NumText.digitsVal (d.take 6)) (h : ¬ 6 < (d.length : Int)) (h2 : ¬ far < (v : Int)) : (v : Int) = expf far d := by unfold expf; rw [if_neg (by rintro (q | q); exact h q; exact h2 (by rw [e]; exact q)), e]
end
abbrev tupBI (V : Int) (t : Tok) : Obj := { cls := .type "tuple", data := .seq #[.bool true, .int V t] }
theorem tupE {q : Addr} {V V' : Int} {t : Tok} (h : V = V') : [(q, tupBI V t)] = [(q, tupBI V' t)] := by subst h; rfl
abbrev Tup (V : Int) (r : Value) (tl : Led) : Prop := ∃ q t, r = .ref q ∧ tl = [(q, tupBI V t)]
theorem tup_end {h₀ h : Heap} {L : Addr} {m : Str → Option Value} {news l : Led} {q : Addr} {V P : Int} {t : Tok} {s : Shared} {tk : Nat} {Q : Value → Shared → Prop}
    (hret : ∀ (r : Value) (tl : Led) (h' : Heap) (tk' : Nat), Fr h₀ L h' m → News h₀ L h' (tl ++ news) → Tup P r tl → Q r { s with heap := h', toks := tk' })
    (F : Fr h₀ L h m) (N : News h₀ L h ((q, tupBI V t) :: l)) (hl : ∀ p ∈ news, p ∈ l) (hV : V = P) : Q (.ref q) { s with heap := h, toks := tk } := by
  subst hV
  refine hret (.ref q) [(q, tupBI V t)] h tk F ?_ ⟨q, t, rfl, rfl⟩
  intro p hp
  rcases List.mem_cons.mp hp with rfl | hp
  · exact N _ (List.mem_cons_self ..)
  · exact N _ (List.mem_cons_of_mem _ (hl _ hp))
def decV (eb fb top hidden least sign D p : Int) : Int := if 0 ≤ p then ratioV eb fb top hidden least sign (D * 10 ^ p.toNat) 1 else ratioV eb fb top hidden least sign D (10 ^ (0 - p).toNat)
theorem decV1 {eb fb top hidden least sign D p : Int} (h : 0 ≤ p) : ratioV eb fb top hidden least sign (D * 10 ^ p.toNat) 1 = decV eb fb top hidden least sign D p := by unfold decV; rw [if_pos h]
theorem decV2 {eb fb top hidden least sign D p : Int} (h : ¬ 0 ≤ p) : ratioV eb fb top hidden least sign D (10 ^ (0 - p).toNat) = decV eb fb top hidden least sign D p := by unfold decV; rw [if_neg h]
/-- what read_decimal reckons: infinity where the exponent is beyond the form -/
def decO (eb fb top hidden least sign D P l : Int) : Int := if top + fb < P then (sign * 2 ^ eb.toNat + top) * hidden + 0 else decV eb fb top hidden least sign D (P - l)
theorem decO1 {eb fb top hidden least sign D P l : Int} (h : top + fb < P) : decO eb fb top hidden least sign D P l = (sign * 2 ^ eb.toNat + top) * hidden + 0 := by unfold decO; rw [if_pos h]
theorem decO2 {eb fb top hidden least sign D P l : Int} (h : ¬ top + fb < P) : decO eb fb top hidden least sign D P l = decV eb fb top hidden least sign D (P - l) := by unfold decO; rw [if_neg h]
theorem bs_one : Bs 1 := by unfold Bs; decide
theorem bs_small {x : Int} (h : 0 < x) (h2 : x < 2 ^ 64) : Bs x := ⟨h, Nat.le_trans (ib_le (m := 64) (Int.le_of_lt h) h2) (by decide)⟩
theorem ten_pos (n : Nat) : (0:Int) < 10 ^ n := Int.pow_pos (by decide)
theorem ten_bits (n : Nat) : ib ((10:Int) ^ n) ≤ 4 * n + 1 := intBits_pow_le (ib_le (m := 4) (by decide) (by decide)) n
theorem bs_dp {D p : Int} (h : 0 < D) (h2 : D < 2 ^ 64) (hp : p ≤ 10000) : Bs (D * 10 ^ p.toNat) := by
  refine ⟨Int.mul_pos h (ten_pos _), ?_⟩
  have := mul_bits (ib_le (m := 64) (Int.le_of_lt h) h2) (ten_bits p.toNat)
  omega
theorem bs_p10 {p : Int} (hp : p ≤ 10100) : Bs (10 ^ p.toNat) := by
  refine ⟨ten_pos _, ?_⟩
  have := ten_bits p.toNat
  omega
/-- how a number's text is made, past its sign -/
structure Dec (tx : Str) (d1 d2 d3 : List Nat) (V : Nat) (far P : Int) : Prop where
  a1 : NumText.AllDigits d3
  a2 : 1 ≤ d3.length
  a3 : d3.length ≤ 7
  a4 : 1 < d3.length → d3.head? ≠ some 48
  l1 : 1 ≤ d1.length
  l2 : d1.length ≤ 20
  l3 : d2.length ≤ 20
  lt : tx.length ≤ 1000
  le : (d1.length : Int) + 1 + d2.length + 1 < tx.length
  dn0 : (dend tx.cps.toList (Int.toNat 0) : Int) = d1.length
  dn1 : (dend tx.cps.toList (Int.toNat ((d1.length : Int) + 1)) : Int) = d1.length + 1 + d2.length
  dot : ((Txt.slice tx (some (d1.length : Int)) (some ((d1.length : Int) + 1))).cps.toList != (Str.ofString ".").cps.toList) = false
  dg : NumText.AllDigits (Txt.slice tx none (some (d1.length : Int)) ++ Txt.slice tx (some ((d1.length : Int) + 1)) (some ((d1.length : Int) + 1 + d2.length))).cps.toList
  dv : NumText.digitsVal (Txt.slice tx none (some (d1.length : Int)) ++ Txt.slice tx (some ((d1.length : Int) + 1)) (some ((d1.length : Int) + 1 + d2.length))).cps.toList = V
  vp : 0 < V
  vs : V < 2 ^ 64
  ee : ((Txt.item tx ((d1.length : Int) + 1 + d2.length)).cps.toList != (Str.ofString "E").cps.toList) = false
  ex : ((Txt.slice tx (some ((d1.length : Int) + 1 + d2.length + 1)) none).cps.toList = d3 ∧ 1 * expf far d3 = P) ∨ ((Txt.slice tx (some ((d1.length : Int) + 1 + d2.length + 1)) none).cps.toList = 45 :: d3 ∧ (-1) * expf far d3 = P)

/-- the text that the law writes -/
abbrev txt (sd dn : Str) (f g v : Int) : Str := sd ++ Str.ofString (toString f) ++ Str.ofString "." ++ Str.ofString (toString g) ++ Str.ofString "E" ++ dn ++ Str.ofString (toString v)
abbrev dgs (n : Int) : List Nat := (Str.ofString (toString n)).cps.toList
/-- the value of the figures -/
def vvN (f g : Int) : Nat := NumText.digitsVal (dgs f ++ dgs g)
abbrev sln (g : Int) : Int := ((Str.ofString (toString g)).length : Int)
theorem fm_lo {z m : Int} (hm : 0 < m) : 0 ≤ z.fmod m := Int.fmod_nonneg_of_pos z hm
theorem fm_hi {z m : Int} (hm : 0 < m) : z.fmod m < m := Int.fmod_lt_of_pos z hm
/-- what the law's text reads as, by its signs -/
inductive Rd (eb fb f g v : Int) : Str → Str → Int → Prop
  | pu : Rd eb fb f g v (Str.ofString "") (Str.ofString "") (lawBits eb fb ((vvN f g : Int) * 10 ^ v.toNat) (10 ^ (sln g).toNat))
  | pd : Rd eb fb f g v (Str.ofString "") (Str.ofString "-") (lawBits eb fb (vvN f g : Int) (10 ^ (v + sln g).toNat))
  | nu : Rd eb fb f g v (Str.ofString "-") (Str.ofString "") (lawBits eb fb ((vvN f g : Int) * 10 ^ v.toNat) (10 ^ (sln g).toNat) + 2 ^ (eb + fb).toNat)
  | nd : Rd eb fb f g v (Str.ofString "-") (Str.ofString "-") (lawBits eb fb (vvN f g : Int) (10 ^ (v + sln g).toNat) + 2 ^ (eb + fb).toNat)
/-- m, with the names ys as o has them -/
def ovr : List Str → (Str → Option Value) → (Str → Option Value) → Str → Option Value
  | [], _, m, y => m y
  | x :: r, o, m, y => if y = x then o y else ovr r o m y
theorem ovr_off {o m : Str → Option Value} {y : Str} : ∀ {ys : List Str}, y ∉ ys → ovr ys o m y = m y
  | [], _ => rfl
  | x :: r, h => by
    rw [List.mem_cons, not_or] at h
    show (if y = x then o y else ovr r o m y) = m y
    rw [if_neg h.1, ovr_off h.2]
theorem ovr_self {m m' : Str → Option Value} : ∀ {ys : List Str}, (∀ y, y ∉ ys → m' y = m y) → m' = ovr ys m' m := by
  intro ys h
  funext y
  suffices q : ∀ zs : List Str, (y ∉ zs → m' y = m y) → m' y = ovr zs m' m y from q ys (h y)
  intro zs
  induction zs with
  | nil => intro k; exact k (List.not_mem_nil)
  | cons x r ih =>
    intro k
    show m' y = (if y = x then m' y else ovr r m' m y)
    by_cases e : y = x
    · rw [if_pos e]
    · rw [if_neg e]; exact ih fun hr => k (by rw [List.mem_cons, not_or]; exact ⟨e, hr⟩)
section
variable {prog : Program} {w : World} {A : Around} {E : Value → Shared → Prop} {s : Shared} {env : Env} {h₀ : Heap} {x : Str} {body : List Stmt} {Q : Flow → Shared → Prop}
theorem ListRest.inv {I : Addr} {lp : Addr × Obj} {m₀ : Str → Option Value} {news : List (Addr × Obj)} (ys : List Str) (hlp : lp ∈ news)
    (done : ∀ (o : Str → Option Value) h tk, Fr h₀ env.locals h (ovr ys o m₀) → News h₀ env.locals h news → Q .next { s with heap := h, toks := tk }) :
    ∀ vs : List Value,
    (∀ v ∈ vs, ∀ (o : Str → Option Value) (it : Obj) h tk, it.cls = .type "list_iterator" → Fr h₀ env.locals h (fun y => if y = x then some v else ovr ys o m₀ y) → News h₀ env.locals h ((I, it) :: news) →
      wpAny (model prog w) A (execs body env) (UnrPost h₀ env.locals { s with heap := h, toks := tk } I it (fun m' n' => n' = news ∧ ∀ y, y ∉ ys → m' y = m₀ y) Q) E { s with heap := h, toks := tk }) →
    ∀ o, ListRest prog w A E h₀ env x body Q s I lp vs (ovr ys o m₀) news := by
  intro vs
  induction vs with
  | nil => intro _ o; exact ListRest.zero (fun h tk F N => done o h tk F N)
  | cons v r ih =>
    intro turn o
    refine ListRest.succ fun it h tk hit F N => ?_
    refine wpAny_mono (turn v (List.mem_cons_self ..) o it h tk hit F N) (fun f s₂ p => ?_) fun _ _ e => e
    have fin : UnrEnd h₀ env.locals { s with heap := h, toks := tk } I it (fun m' n' => n' = news ∧ ∀ y, y ∉ ys → m' y = m₀ y) s₂ →
        UnrEnd h₀ env.locals { s with heap := h, toks := tk } I it (fun m' n' => lp ∈ n' ∧ ListRest prog w A E h₀ env x body Q s I lp r m' n') s₂ := by
      rintro ⟨h', tk', m', news', e, F', N', ho, rfl, hm⟩
      refine ⟨h', tk', m', _, e, F', N', ho, hlp, ?_⟩
      rw [ovr_self hm]
      exact ih (fun v hv => turn v (List.mem_cons_of_mem _ hv)) m'
    cases f with
    | ret v => exact p
    | brk => exact p
    | next => exact fin p
    | cont => exact fin p
theorem list_inv {ax : Addr} {lo : Obj} {vs : List Value} {n : Nat} {m₀ : Str → Option Value} {news : List (Addr × Obj)} (ys : List Str)
    (hh : A.handled = none) (F : Fr h₀ env.locals s.heap m₀) (N : News h₀ env.locals s.heap news) (hm : (ax, lo) ∈ news) (hc : lo.cls = .type "list") (hd : lo.data = .seq vs.toArray n)
    (turn : ∀ v ∈ vs, ∀ (I : Addr), (∀ p ∈ news, p.1 < I) → ∀ (o : Str → Option Value) (it : Obj) h tk, it.cls = .type "list_iterator" → Fr h₀ env.locals h (fun y => if y = x then some v else ovr ys o m₀ y) → News h₀ env.locals h ((I, it) :: news) →
      wpAny (model prog w) A (execs body env) (UnrPost h₀ env.locals { s with heap := h, toks := tk } I it (fun m' n' => n' = news ∧ ∀ y, y ∉ ys → m' y = m₀ y) Q) E { s with heap := h, toks := tk })
    (done : ∀ (o : Str → Option Value) h tk, Fr h₀ env.locals h (ovr ys o m₀) → News h₀ env.locals h news → Q .next { s with heap := h, toks := tk }) :
    wpAny (model prog w) A (pyIter (.ref ax)) (fun it s₂ => LoopAtV prog w A h₀ env x body Q E it s₂) E s := by
  refine iter_listUnr hh F N hm hc hd fun I hI => ?_
  have q := ListRest.inv (prog := prog) (w := w) (A := A) (E := E) (s := s) (x := x) (body := body) (Q := Q) (lp := (ax, lo)) (m₀ := m₀) ys hm done vs (fun v hv => turn v hv I hI) m₀
  have e : m₀ = ovr ys m₀ m₀ := ovr_self fun _ _ => rfl
  rw [← e] at q
  exact q
theorem list_inv2 {ax : Addr} {lo : Obj} {a b : Value} {n : Nat} {m₀ : Str → Option Value} {news : List (Addr × Obj)} (ys : List Str)
    (hh : A.handled = none) (F : Fr h₀ env.locals s.heap m₀) (N : News h₀ env.locals s.heap news) (hm : (ax, lo) ∈ news) (hc : lo.cls = .type "list") (hd : lo.data = .seq [a, b].toArray n)
    (turnA : ∀ (I : Addr), (∀ p ∈ news, p.1 < I) → ∀ (o : Str → Option Value) (it : Obj) h tk, it.cls = .type "list_iterator" → Fr h₀ env.locals h (fun y => if y = x then some a else ovr ys o m₀ y) → News h₀ env.locals h ((I, it) :: news) →
      wpAny (model prog w) A (execs body env) (UnrPost h₀ env.locals { s with heap := h, toks := tk } I it (fun m' n' => n' = news ∧ ∀ y, y ∉ ys → m' y = m₀ y) Q) E { s with heap := h, toks := tk })
    (turnB : ∀ (I : Addr), (∀ p ∈ news, p.1 < I) → ∀ (o : Str → Option Value) (it : Obj) h tk, it.cls = .type "list_iterator" → Fr h₀ env.locals h (fun y => if y = x then some b else ovr ys o m₀ y) → News h₀ env.locals h ((I, it) :: news) →
      wpAny (model prog w) A (execs body env) (UnrPost h₀ env.locals { s with heap := h, toks := tk } I it (fun m' n' => n' = news ∧ ∀ y, y ∉ ys → m' y = m₀ y) Q) E { s with heap := h, toks := tk })
    (done : ∀ (o : Str → Option Value) h tk, Fr h₀ env.locals h (ovr ys o m₀) → News h₀ env.locals h news → Q .next { s with heap := h, toks := tk }) :
    wpAny (model prog w) A (pyIter (.ref ax)) (fun it s₂ => LoopAtV prog w A h₀ env x body Q E it s₂) E s := by
  refine list_inv ys hh F N hm hc hd (fun v hv => ?_) done
  rcases List.mem_cons.mp hv with rfl | hv
  · exact turnA
  · rcases List.mem_cons.mp hv with rfl | hv
    · exact turnB
    · exact absurd hv (List.not_mem_nil)
theorem list_invK {ax : Addr} {lo : Obj} {vs : List Value} {n : Nat} {m₀ : Str → Option Value} {news : List (Addr × Obj)} (ys : List Str) (lo₁ hi₁ : Int)
    (hh : A.handled = none) (F : Fr h₀ env.locals s.heap m₀) (N : News h₀ env.locals s.heap news) (hm : (ax, lo) ∈ news) (hc : lo.cls = .type "list") (hd : lo.data = .seq vs.toArray n)
    (hv : ∀ v ∈ vs, ∃ k t, v = .int k t ∧ lo₁ ≤ k ∧ k ≤ hi₁)
    (turn : ∀ (k : Int) (t : Tok), lo₁ ≤ k → k ≤ hi₁ → ∀ (I : Addr), (∀ p ∈ news, p.1 < I) → ∀ (o : Str → Option Value) (it : Obj) h tk, it.cls = .type "list_iterator" → Fr h₀ env.locals h (fun y => if y = x then some (.int k t) else ovr ys o m₀ y) → News h₀ env.locals h ((I, it) :: news) →
      wpAny (model prog w) A (execs body env) (UnrPost h₀ env.locals { s with heap := h, toks := tk } I it (fun m' n' => n' = news ∧ ∀ y, y ∉ ys → m' y = m₀ y) Q) E { s with heap := h, toks := tk })
    (done : ∀ (o : Str → Option Value) h tk, Fr h₀ env.locals h (ovr ys o m₀) → News h₀ env.locals h news → Q .next { s with heap := h, toks := tk }) :
    wpAny (model prog w) A (pyIter (.ref ax)) (fun it s₂ => LoopAtV prog w A h₀ env x body Q E it s₂) E s := by
  refine list_inv ys hh F N hm hc hd (fun v hvm => ?_) done
  obtain ⟨k, t, rfl, a, b⟩ := hv v hvm
  exact turn k t a b
theorem two_ints {a b lo₁ hi₁ : Int} {t u : Tok} (h1 : lo₁ ≤ a) (h2 : a ≤ hi₁) (h3 : lo₁ ≤ b) (h4 : b ≤ hi₁) : ∀ v ∈ [Value.int a t, Value.int b u], ∃ k t, v = .int k t ∧ lo₁ ≤ k ∧ k ≤ hi₁ := by
  intro v hv
  rcases List.mem_cons.mp hv with rfl | hv
  · exact ⟨_, _, rfl, h1, h2⟩
  · rcases List.mem_cons.mp hv with rfl | hv
    · exact ⟨_, _, rfl, h3, h4⟩
    · exact absurd hv (List.not_mem_nil)
theorem off_ite {y x : Str} {v f r : Option Value} (h : y ≠ x) (k : f = r) : (if y = x then v else f) = r := by rw [if_neg h]; exact k
abbrev ysD : List Str := [Str.ofString "down", Str.ofString "told", Str.ofString "value", Str.ofString "shift_by", Str.ofString "due"]
abbrev ysS : List Str := Str.ofString "side" :: ysD
abbrev ysW : List Str := Str.ofString "way" :: Str.ofString "first" :: Str.ofString "tail" :: ysS
theorem inv_end {L I : Addr} {it : Obj} {m₀ m' : Str → Option Value} {news all : List (Addr × Obj)} {ys : List Str} {s₁ : Shared} {h' : Heap} {tk : Nat} (F : Fr h₀ L h' m') (N : News h₀ L h' all)
    (sub : ∀ p ∈ (I, it) :: news, p ∈ all) (off : ∀ p ∈ news, p.1 < I) (hm : ∀ y, y ∉ ys → m' y = m₀ y) :
    UnrEnd h₀ L s₁ I it (fun m' n' => n' = news ∧ ∀ y, y ∉ ys → m' y = m₀ y) { s₁ with heap := h', toks := tk } :=
  UnrEnd.intro F N news sub (fun p hp => Nat.ne_of_lt (off p hp)) ⟨rfl, hm⟩
end
/-- the one path behind a branching statement: the name x holds W -/
def CutE (h₀ : Heap) (L : Addr) (m : Str → Option Value) (news : List (Addr × Obj)) (x : Str) (W : Int) (s : Shared) (f : Flow) (s' : Shared) : Prop :=
  f = .next ∧ ∃ h' tk' t, s' = { s with heap := h', toks := tk' } ∧ Fr h₀ L h' (fun y => if y = x then some (.int W t) else m y) ∧ News h₀ L h' news
theorem cut_st {h₀ h : Heap} {L : Addr} {m : Str → Option Value} {news all : List (Addr × Obj)} {x : Str} {V W : Int} {t : Tok} {s : Shared} {tk : Nat}
    (F : Fr h₀ L h (fun y => if y = x then some (.int V t) else m y)) (N : News h₀ L h all) (hs : ∀ p ∈ news, p ∈ all) (hV : V = W) : CutE h₀ L m news x W s .next { s with heap := h, toks := tk } := by
  subst hV
  exact ⟨rfl, h, tk, t, rfl, F, fun p hp => N p (hs p hp)⟩
theorem cut_id {h₀ h : Heap} {L : Addr} {m : Str → Option Value} {news all : List (Addr × Obj)} {x : Str} {V W : Int} {t : Tok} {s : Shared} {tk : Nat}
    (F : Fr h₀ L h m) (hm : m x = some (.int V t)) (N : News h₀ L h all) (hs : ∀ p ∈ news, p ∈ all) (hV : V = W) : CutE h₀ L m news x W s .next { s with heap := h, toks := tk } := by
  subst hV
  have e : (fun y => if y = x then some (.int V t) else m y) = m := by
    funext y
    by_cases h : y = x
    · subst h; rw [if_pos rfl, hm]
    · rw [if_neg h]
  exact ⟨rfl, h, tk, t, rfl, by rw [e]; exact F, fun p hp => N p (hs p hp)⟩
theorem cutW {M : Model} {A : Around} {E : Value → Shared → Prop} {s : Shared} {Q : Flow → Shared → Prop} {h₀ : Heap} {L : Addr} {m : Str → Option Value} {news : List (Addr × Obj)} {t : Sem Flow}
    (_F : Fr h₀ L s.heap m) (_N : News h₀ L s.heap news) (x : Str) (W : Int) (h1 : wpAny M A t (CutE h₀ L m news x W s) E s)
    (h2 : ∀ h' tk' tk, Fr h₀ L h' (fun y => if y = x then some (.int W tk) else m y) → News h₀ L h' news → Q .next { s with heap := h', toks := tk' }) : wpAny M A t Q E s := by
  refine wpAny_mono h1 (fun f s' p => ?_) fun _ _ e => e
  obtain ⟨rfl, h', tk', tk, rfl, F', N'⟩ := p
  exact h2 h' tk' tk F' N'
theorem strlen (x : Str) : x.cps.toList.length = x.length := Array.length_toList
theorem sl_ss {x : Str} {i j : Int} (h0 : 0 ≤ i) (h1 : i ≤ j) (h2 : j ≤ x.length) : (Txt.slice x (some i) (some j)).cps.toList = (x.cps.toList.drop i.toNat).take (j - i).toNat := by
  rw [eq_of_beq (slice_closesL h0 h1 h2)]
theorem sl_ns {x : Str} {j : Int} (h0 : 0 ≤ j) (h2 : j ≤ x.length) : (Txt.slice x none (some j)).cps.toList = x.cps.toList.take j.toNat := by
  rw [eq_of_beq (slice_closes_toL h0 h2)]
  simp
theorem sl_sn {x : Str} {i : Int} (h0 : 0 ≤ i) (h2 : i ≤ x.length) : (Txt.slice x (some i) none).cps.toList = x.cps.toList.drop i.toNat := by
  rw [eq_of_beq (slice_closes_fromL h0 h2 rfl)]
  have := strlen x
  show List.take _ _ = _
  rw [List.take_of_length_le]
  rw [List.length_drop]; omega
theorem sl_ssb {x : Str} {i j : Int} (h0 : 0 ≤ i) (h1 : i ≤ x.length) (hj : (x.length : Int) ≤ j) : (Txt.slice x (some i) (some j)).cps.toList = x.cps.toList.drop i.toNat := by
  have e : Builtin.Str.strSliceIndices (some i) (some j) 1 x.length = Builtin.Str.strSliceIndices (some i) (some (x.length : Int)) 1 x.length := by
    have a0 : ¬ j < 0 := by omega
    have a1 : ¬ ((x.length : Int) < 0) := by omega
    have a2 : (1 : Int) > 0 := by decide
    simp only [Builtin.Str.strSliceIndices, a0, a1, a2, if_false, if_true, Int.min_eq_right hj, Int.min_self]
  have e2 : Txt.slice x (some i) (some j) = Txt.slice x (some i) (some (x.length : Int)) := by
    unfold Txt.slice
    rw [e]
  rw [e2, sl_ss h0 h1 (Int.le_refl _)]
  have := strlen x
  rw [List.take_of_length_le]
  rw [List.length_drop]; omega
theorem sl_nsb {x : Str} {j : Int} (hj : (x.length : Int) ≤ j) : (Txt.slice x none (some j)).cps.toList = x.cps.toList := by
  rw [slice_to_beyond hj, sl_ns (by omega) (Int.le_refl _)]
  have := strlen x
  rw [List.take_of_length_le]
  omega
theorem it_at {x : Str} {i : Int} (h0 : 0 ≤ i) (h2 : i < x.length) : Txt.item x i = ⟨#[x.cps.toList.getD i.toNat 0]⟩ := by
  show (⟨#[(Txt.charAt x i).getD 0]⟩ : Str) = _
  unfold Txt.charAt
  rw [seqIndex_of h0 (by omega)]
  simp
theorem isDg_iff (c : Nat) : isDg c = true ↔ 48 ≤ c ∧ c ≤ 57 := by unfold isDg; simp
theorem dig_in {x : Str} {k : Int} (h0 : 0 ≤ k) (h2 : k < x.length) : (Builtin.Str.occurrences (Str.ofString "0123456789") (Txt.item x k) 0 (Str.ofString "0123456789").length 1).isEmpty = !isDg (x.cps.toList.getD k.toNat 0) := by
  rw [it_at h0 h2, empty_one]
  generalize x.cps.toList.getD k.toNat 0 = c
  have e : (Str.ofString "0123456789").cps.toList = [48, 49, 50, 51, 52, 53, 54, 55, 56, 57] := by decide +kernel
  rw [e]
  congr 1
  rw [Bool.eq_iff_iff, decide_eq_true_eq, isDg_iff]
  simp only [List.mem_cons, List.not_mem_nil, or_false]
  omega
theorem dend_step {cs : List Nat} {k : Nat} (h : k < cs.length) (hd : isDg (cs.getD k 0) = true) : dend cs (k + 1) = dend cs k := by
  unfold dend
  rw [List.drop_eq_getElem_cons h, List.takeWhile_cons]
  rw [List.getD_eq_getElem?_getD, List.getElem?_eq_getElem h, Option.getD_some] at hd
  rw [if_pos hd, List.length_cons]
  omega
theorem dend_stop {cs : List Nat} {k : Nat} (h : k < cs.length) (hd : isDg (cs.getD k 0) = false) : dend cs k = k := by
  unfold dend
  rw [List.drop_eq_getElem_cons h, List.takeWhile_cons]
  rw [List.getD_eq_getElem?_getD, List.getElem?_eq_getElem h, Option.getD_some] at hd
  rw [if_neg (by rw [hd]; decide)]
  rfl
theorem dend_end {cs : List Nat} {k : Nat} (h : cs.length ≤ k) : dend cs k = k := by
  unfold dend
  rw [List.drop_eq_nil_of_le h]
  rfl
abbrev occ (tx : Str) (k : Int) : List Nat := Builtin.Str.occurrences (Str.ofString "0123456789") (Txt.item tx k) 0 (Str.ofString "0123456789").length 1
theorem de_start {tx : Str} {n : Int} (h1 : 0 ≤ n) (h2 : n ≤ tx.length) : n ≤ n ∧ n ≤ tx.length ∧ dend tx.cps.toList n.toNat = dend tx.cps.toList n.toNat := ⟨Int.le_refl _, h2, rfl⟩
theorem de_turn {tx : Str} {n k : Int} (h0 : 0 ≤ n) (h1 : n ≤ k) (hk : k < tx.length) (h3 : dend tx.cps.toList k.toNat = dend tx.cps.toList n.toNat) (ho : (occ tx k).isEmpty = false) :
    n ≤ k + 1 ∧ k + 1 ≤ tx.length ∧ dend tx.cps.toList (k + 1).toNat = dend tx.cps.toList n.toNat := by
  refine ⟨by omega, by omega, ?_⟩
  rw [dig_in (by omega) hk] at ho
  have := strlen tx
  rw [← h3, show (k + 1).toNat = k.toNat + 1 from by omega]
  refine dend_step (by omega) ?_
  simpa using ho
theorem de_out1 {tx : Str} {n N k : Int} (h3 : dend tx.cps.toList k.toNat = dend tx.cps.toList n.toNat) (h0 : 0 ≤ n) (h1 : n ≤ k) (hk : k < tx.length) (hN : (dend tx.cps.toList n.toNat : Int) = N) (ho : (occ tx k).isEmpty = true) : k = N := by
  rw [dig_in (by omega) hk] at ho
  have := strlen tx
  rw [← hN, ← h3, dend_stop (by omega) (by simpa using ho)]
  omega
theorem de_out2 {tx : Str} {n N k : Int} (h3 : dend tx.cps.toList k.toNat = dend tx.cps.toList n.toNat) (h0 : 0 ≤ n) (h1 : n ≤ k) (h2 : k ≤ tx.length) (hk : ¬ k < tx.length) (hN : (dend tx.cps.toList n.toNat : Int) = N) : k = N := by
  have := strlen tx
  rw [← hN, ← h3, dend_end (by omega)]
  omega
theorem takeWhile_dg : ∀ {d : List Nat}, NumText.AllDigits d → d.takeWhile isDg = d
  | [], _ => rfl
  | c :: d, h => by
    rw [List.takeWhile_cons, if_pos ((isDg_iff c).mpr h.head), takeWhile_dg h.tail]
theorem takeWhile_dg_stop {d r : List Nat} {c : Nat} (h : NumText.AllDigits d) (hc : isDg c = false) : (d ++ c :: r).takeWhile isDg = d := by
  induction d with
  | nil => rw [List.nil_append, List.takeWhile_cons, if_neg (by rw [hc]; decide)]
  | cons a d ih => rw [List.cons_append, List.takeWhile_cons, if_pos ((isDg_iff a).mpr h.head), ih h.tail]
theorem dend_all {pf d : List Nat} (h : NumText.AllDigits d) : dend (pf ++ d) pf.length = pf.length + d.length := by
  unfold dend
  rw [List.drop_left, takeWhile_dg h]
theorem dend_at {pf d r : List Nat} {c : Nat} (h : NumText.AllDigits d) (hc : isDg c = false) : dend (pf ++ (d ++ c :: r)) pf.length = pf.length + d.length := by
  unfold dend
  rw [List.drop_left, takeWhile_dg_stop h hc]
section
variable {tx : Str} {pf d : List Nat}
theorem ex_len (hT : tx.cps.toList = pf ++ d) : tx.length = pf.length + d.length := by
  rw [← strlen, hT, List.length_append]
theorem ex_slice (hT : tx.cps.toList = pf ++ d) {o : Int} (ho : o = pf.length) : (Txt.slice tx (some o) (some (o + 6))).cps.toList = d.take 6 := by
  have hl := ex_len hT
  rcases Int.lt_or_le (tx.length : Int) (o + 6) with q | q
  · rw [sl_ssb (by omega) (by omega) (by omega), hT, show o.toNat = pf.length from by omega, List.drop_left, List.take_of_length_le (by omega)]
  · rw [sl_ss (by omega) (by omega) q, hT, show o.toNat = pf.length from by omega, List.drop_left, show (o + 6 - o).toNat = 6 from by omega]
theorem ex_item (hT : tx.cps.toList = pf ++ d) {o : Int} (ho : o = pf.length) (hd : 1 ≤ d.length) : (Txt.item tx o).cps.toList = [d.getD 0 0] := by
  have hl := ex_len hT
  rw [it_at (by omega) (by omega), hT, show o.toNat = pf.length from by omega]
  show [(pf ++ d).getD pf.length 0] = _
  rw [List.getD_eq_getElem?_getD, List.getElem?_append_right (Nat.le_refl _), Nat.sub_self, ← List.getD_eq_getElem?_getD]
theorem ex_first (hl : 1 ≤ tx.cps.toList.length) : (Txt.slice tx none (some 1)).cps.toList = [tx.cps.toList.getD 0 0] := by
  rw [sl_ns (by decide) (by have := strlen tx; omega)]
  match tx.cps.toList, hl with
  | c :: r, _ => rfl
theorem take_digits {n : Nat} (h : NumText.AllDigits d) : NumText.AllDigits (d.take n) := fun c hc => h c (List.mem_of_mem_take hc)
theorem dg_head (h : NumText.AllDigits d) (hl : 1 ≤ d.length) : 48 ≤ d.getD 0 0 ∧ d.getD 0 0 ≤ 57 := by
  match d, hl, h with
  | c :: r, _, h => exact h.head
theorem one_ne {a b : Nat} (h : a ≠ b) : ([a] == [b]) = false := by
  apply beq_eq_false_iff_ne.mpr
  intro e
  exact h (List.cons.inj e).1
theorem cp_minus : (Str.ofString "-").cps.toList = [45] := by decide +kernel
theorem cp_plus : (Str.ofString "+").cps.toList = [43] := by decide +kernel
theorem cp_zero : (Str.ofString "0").cps.toList = [48] := by decide +kernel
theorem cp_dot : (Str.ofString ".").cps.toList = [46] := by decide +kernel
theorem cp_E : (Str.ofString "E").cps.toList = [69] := by decide +kernel
theorem cp_nan : (Str.ofString "NAN").cps.toList = [78, 65, 78] := by decide +kernel
theorem cp_inf : (Str.ofString "INF").cps.toList = [73, 78, 70] := by decide +kernel
theorem cp_nil : (Str.ofString "").cps.toList = [] := by decide +kernel
theorem ex_zero (hT : tx.cps.toList = pf ++ d) {o : Int} (ho : o = pf.length) (hz : 1 < d.length → d.head? ≠ some 48) (hd : 1 < d.length) : ((Txt.item tx o).cps.toList == (Str.ofString "0").cps.toList) = false := by
  rw [ex_item hT ho (by omega), cp_zero]
  refine one_ne fun e => hz hd ?_
  match d, hd, e with
  | c :: r, _, e => exact congrArg some e
theorem ex_dend (hT : tx.cps.toList = pf ++ d) {o : Int} (ho : o = pf.length) (hg : NumText.AllDigits d) : (dend tx.cps.toList o.toNat : Int) = tx.length := by
  rw [hT, show o.toNat = pf.length from by omega, dend_all hg, ex_len hT]
end
theorem fd {a b : Int} (h : 0 < b) : a.fdiv b = a / b := Int.fdiv_eq_ediv_of_nonneg a (Int.le_of_lt h)
theorem rne_mul {a b c : Int} (hb : 0 < b) (hc : 0 < c) : rne (a * c) (b * c) = rne a b := by
  unfold rne
  have hbc : 0 < b * c := Int.mul_pos hb hc
  rw [fd hbc, fd hb, Int.mul_ediv_mul_of_pos_left _ _ hc]
  generalize a / b = q
  have e : a * c - q * (b * c) = (a - q * b) * c := by rw [Int.sub_mul, Int.mul_assoc]
  rw [e]
  generalize a - q * b = r
  have e2 : 2 * (r * c) = (2 * r) * c := (Int.mul_assoc _ _ _).symm
  rw [e2]
  have c1 : (b * c < 2 * r * c) ↔ (b < 2 * r) := Int.mul_lt_mul_right hc
  have c2 : (2 * r * c = b * c) ↔ (2 * r = b) := ⟨fun h => Int.eq_of_mul_eq_mul_right (Int.ne_of_gt hc) h, fun h => by rw [h]⟩
  simp only [c1, c2]
theorem pow_half {k : Int} (h : 1 ≤ k) : (2:Int) ^ k.toNat = 2 * 2 ^ (k - 1).toNat := by
  rw [show k.toNat = (k - 1).toNat + 1 from by omega, Int.pow_succ, Int.mul_comm]
theorem rsh_rne {A B k : Int} (hB : 0 < B) (hk : 1 ≤ k) : rsh (A.fdiv B) k (A.fdiv B * B != A) = rne A (B * 2 ^ k.toNat) := by
  have hH := p2pos (k - 1).toNat
  have hP := pow_half hk
  have hp := p2pos k.toNat
  have hBP : 0 < B * 2 ^ k.toNat := Int.mul_pos hB hp
  unfold rsh rne
  rw [fd hBP, fd hB, fd hp]
  have eK : A / B / 2 ^ k.toNat = A / (B * 2 ^ k.toNat) := by
    rw [Int.ediv_ediv, if_neg (fun z => by omega), Int.sub_zero]
  rw [← eK]
  have r0 := Int.emod_nonneg A (Int.ne_of_gt hB)
  have r1 := Int.emod_lt_of_pos A hB
  have r2 := Int.mul_ediv_add_emod A B
  have l0 := Int.emod_nonneg (A / B) (Int.ne_of_gt hp)
  have l1 := Int.emod_lt_of_pos (A / B) hp
  have l2 := Int.mul_ediv_add_emod (A / B) (2 ^ k.toNat)
  generalize (2:Int) ^ k.toNat = P at *
  generalize (2:Int) ^ (k - 1).toNat = H at *
  generalize A % B = ρ at *
  generalize hQ : A / B = Q at *
  generalize Q % P = L at *
  generalize Q / P = K at *
  have eL : Q - K * P = L := by rw [← l2, Int.mul_comm K P]; omega
  have eR : A - K * (B * P) = L * B + ρ := by
    rw [← eL, Int.sub_mul, ← r2, Int.mul_comm B Q, Int.mul_comm B P, ← Int.mul_assoc]; omega
  have eQ : Q * B = A - ρ := by rw [Int.mul_comm]; omega
  rw [eL, eR, eQ]
  have hr : (A - ρ != A) = true ↔ ρ ≠ 0 := by rw [bne_iff_ne]; omega
  have eBP : B * P = 2 * (H * B) := by rw [hP, Int.mul_comm H B]; exact Int.mul_left_comm _ _ _
  rw [eBP]
  have q1 : L < H → L * B + B ≤ H * B := fun h => by
    have := Int.mul_le_mul_of_nonneg_right (show L + 1 ≤ H from h) (Int.le_of_lt hB)
    rw [Int.add_mul, Int.one_mul] at this
    exact this
  have q2 : H < L → H * B + B ≤ L * B := fun h => by
    have := Int.mul_le_mul_of_nonneg_right (show H + 1 ≤ L from h) (Int.le_of_lt hB)
    rw [Int.add_mul, Int.one_mul] at this
    exact this
  have q3 : L = H → L * B = H * B := fun h => by rw [h]
  have key : (1 * H < L ∨ (L = 1 * H ∧ ((A - ρ != A) = true ∨ K.fmod 2 = 1))) ↔ (2 * (H * B) < 2 * (L * B + ρ) ∨ (2 * (L * B + ρ) = 2 * (H * B) ∧ K.fmod 2 = 1)) := by
    rw [hr]
    generalize L * B = X at *
    generalize H * B = Y at *
    rcases Int.lt_trichotomy L H with h | h | h
    · have := q1 h
      constructor
      · rintro (g | ⟨g, _⟩) <;> omega
      · rintro (g | ⟨g, _⟩) <;> omega
    · have := q3 h
      constructor
      · rintro (g | ⟨g, g2 | g2⟩)
        · omega
        · exact Or.inl (by omega)
        · by_cases z : ρ = 0
          · exact Or.inr ⟨by omega, g2⟩
          · exact Or.inl (by omega)
      · rintro (g | ⟨g, g2⟩)
        · exact Or.inr ⟨by omega, Or.inl (by omega)⟩
        · exact Or.inr ⟨by omega, Or.inr g2⟩
    · have := q2 h
      constructor
      · intro _; exact Or.inl (by omega)
      · intro _; exact Or.inl (by omega)
  by_cases c : (1 * H < L ∨ (L = 1 * H ∧ ((A - ρ != A) = true ∨ K.fmod 2 = 1)))
  · rw [if_pos c, if_pos (key.mp c)]
  · rw [if_neg c, if_neg (fun g => c (key.mpr g))]
/-- f is the whole part of the place of a / b -/
structure Fl (a b f : Int) (N : Nat) : Prop where
  nn : 0 ≤ f + N
  lo : b * 2 ^ (f + N).toNat ≤ a * 2 ^ N
  hi : a * 2 ^ N < b * 2 ^ ((f + N).toNat + 1)
theorem Fl.up {a b f : Int} {N : Nat} (h : Fl a b f N) (j : Nat) : Fl a b f (N + j) := by
  have hj := p2pos j
  obtain ⟨nn, lo, hi⟩ := h
  have e : (f + ((N + j : Nat) : Int)).toNat = (f + N).toNat + j := by omega
  refine ⟨by omega, ?_, ?_⟩
  · rw [e, Int.pow_add, Int.pow_add, ← Int.mul_assoc, ← Int.mul_assoc]
    exact Int.mul_le_mul_of_nonneg_right lo (Int.le_of_lt hj)
  · rw [e, show (f + N).toNat + j + 1 = (f + N).toNat + 1 + j from by omega, Int.pow_add 2 N j, Int.pow_add 2 _ j, ← Int.mul_assoc, ← Int.mul_assoc]
    exact (Int.mul_lt_mul_right hj).mpr hi
theorem Fl.le {a b f g : Int} {N : Nat} (hb : 0 < b) (h : Fl a b f N) (h2 : Fl a b g N) : f ≤ g := by
  have c : b * 2 ^ (f + N).toNat < b * 2 ^ ((g + N).toNat + 1) := Int.lt_of_le_of_lt h.lo h2.hi
  have d := p2inj ((Int.mul_lt_mul_left hb).mp c)
  have := h.nn
  have := h2.nn
  omega
theorem Fl.eq {a b f g : Int} {N M : Nat} (hb : 0 < b) (h : Fl a b f N) (h2 : Fl a b g M) : f = g := by
  have x := h.up M
  have y := h2.up N
  rw [Nat.add_comm] at y
  exact Int.le_antisymm (x.le hb y) (y.le hb x)
theorem Fl.mul {a b f c : Int} {N : Nat} (hc : 0 < c) (h : Fl a b f N) : Fl (a * c) (b * c) f N := by
  obtain ⟨nn, lo, hi⟩ := h
  refine ⟨nn, ?_, ?_⟩
  · rw [Int.mul_right_comm, Int.mul_right_comm a]
    exact Int.mul_le_mul_of_nonneg_right lo (Int.le_of_lt hc)
  · rw [Int.mul_right_comm, Int.mul_right_comm b]
    exact (Int.mul_lt_mul_right hc).mpr hi
theorem flo_is {a b : Int} (ha : 0 < a) (hb : 0 < b) : Fl a b (flo a b) (ib b) := by
  have A := ib_pos ha
  have B := ib_pos hb
  have pa := p2pos (ib a)
  have pb := p2pos (ib b)
  have up : a * 2 ^ ib b < b * 2 ^ (ib a + 1) := by
    have h1 : a * 2 ^ ib b < 2 ^ ib a * 2 ^ ib b := (Int.mul_lt_mul_right pb).mpr A.2.2
    have h2 : (2:Int) ^ (ib b - 1) * 2 ^ (ib a + 1) ≤ b * 2 ^ (ib a + 1) := Int.mul_le_mul_of_nonneg_right B.2.1 (Int.le_of_lt (p2pos _))
    rw [← Int.pow_add] at h1 h2
    rw [show ib b - 1 + (ib a + 1) = ib a + ib b from by omega] at h2
    omega
  have dn : b * 2 ^ (ib a - 1) ≤ a * 2 ^ ib b := by
    have h1 : b * 2 ^ (ib a - 1) < 2 ^ ib b * 2 ^ (ib a - 1) := (Int.mul_lt_mul_right (p2pos _)).mpr B.2.2
    have h2 : (2:Int) ^ (ib a - 1) * 2 ^ ib b ≤ a * 2 ^ ib b := Int.mul_le_mul_of_nonneg_right A.2.1 (Int.le_of_lt pb)
    rw [Int.mul_comm (2 ^ (ib a - 1)) (2 ^ ib b)] at h2
    omega
  have test : ∀ c : Prop, (c ↔ a * 2 ^ ib b < b * 2 ^ ib a) → ∀ [Decidable c], Fl a b (if c then (ib a : Int) - ib b - 1 else (ib a : Int) - ib b) (ib b) := by
    intro c hc _
    by_cases h : c
    · rw [if_pos h]
      refine ⟨by omega, ?_, ?_⟩
      · rw [show ((ib a : Int) - ib b - 1 + ib b).toNat = ib a - 1 from by omega]; exact dn
      · rw [show ((ib a : Int) - ib b - 1 + ib b).toNat + 1 = ib a from by omega]; exact hc.mp h
    · rw [if_neg h]
      refine ⟨by omega, ?_, ?_⟩
      · rw [show ((ib a : Int) - ib b + ib b).toNat = ib a from by omega]; exact Int.not_lt.mp fun g => h (hc.mpr g)
      · rw [show ((ib a : Int) - ib b + ib b).toNat + 1 = ib a + 1 from by omega]; exact up
  unfold flo
  by_cases h : 0 ≤ (ib a : Int) - ib b
  · rw [if_pos h]
    refine test _ ?_
    rw [← Int.mul_lt_mul_right pb, Int.mul_assoc, ← Int.pow_add, show ((ib a : Int) - ib b).toNat + ib b = ib a from by omega]
  · rw [if_neg h]
    refine test _ ?_
    rw [← Int.mul_lt_mul_right pa, Int.mul_assoc, ← Int.pow_add, show (0 - ((ib a : Int) - ib b)).toNat + ib a = ib b from by omega]
theorem flo_mul {a b c : Int} (ha : 0 < a) (hb : 0 < b) (hc : 0 < c) : flo (a * c) (b * c) = flo a b :=
  Fl.eq (Int.mul_pos hb hc) (flo_is (Int.mul_pos ha hc) (Int.mul_pos hb hc)) ((flo_is ha hb).mul hc)
theorem near_mul {a b c k : Int} (hb : 0 < b) (hc : 0 < c) : near (a * c) (b * c) k = near a b k := by
  unfold near
  split
  · rw [Int.mul_right_comm, rne_mul (Int.mul_pos hb (p2pos _)) hc]
  · rw [Int.mul_right_comm, rne_mul hb hc]
theorem lawBits_mul {eb fb a b c : Int} (ha : 0 < a) (hb : 0 < b) (hc : 0 < c) : lawBits eb fb (a * c) (b * c) = lawBits eb fb a b := by
  unfold lawBits
  rw [flo_mul ha hb hc, near_mul hb hc]
/-- the shifted quotient, rounded, is the nearest -/
theorem near_rsh {a b p : Int} {s : Int} (hb : 0 < b) (hs : 0 ≤ s) (hk : 1 ≤ p - (0 - s)) :
    rsh ((a * 2 ^ s.toNat).fdiv b) (p - (0 - s)) ((a * 2 ^ s.toNat).fdiv b * b != a * 2 ^ s.toNat) = near a b p := by
  rw [rsh_rne hb hk]
  unfold near
  by_cases h : 0 ≤ p
  · rw [if_pos h, show (p - (0 - s)).toNat = p.toNat + s.toNat from by omega, Int.pow_add, ← Int.mul_assoc, rne_mul (Int.mul_pos hb (p2pos _)) (p2pos _)]
  · rw [if_neg h, show s.toNat = (0 - p).toNat + (p - (0 - s)).toNat from by omega, Int.pow_add, ← Int.mul_assoc, rne_mul hb (p2pos _)]
theorem flo_quo {a b : Int} {s : Int} (ha : 0 < a) (hb : 0 < b) (hq : 0 < (a * 2 ^ s.toNat).fdiv b) (hs : 0 ≤ s) :
    flo a b = ib ((a * 2 ^ s.toNat).fdiv b) - 1 - s := by
  have I := ib_pos hq
  refine Fl.eq hb (flo_is ha hb) (M := s.toNat) ?_
  have r0 := Int.emod_nonneg (a * 2 ^ s.toNat) (Int.ne_of_gt hb)
  have r1 := Int.emod_lt_of_pos (a * 2 ^ s.toNat) hb
  have r2 := Int.mul_ediv_add_emod (a * 2 ^ s.toNat) b
  rw [fd hb] at *
  generalize hA : a * 2 ^ s.toNat = A at *
  generalize A % b = ρ at *
  generalize A / b = q at *
  have n := I.1
  refine ⟨by omega, ?_, ?_⟩
  · rw [hA, show ((ib q : Int) - 1 - s + s.toNat).toNat = ib q - 1 from by omega]
    have := Int.mul_le_mul_of_nonneg_left I.2.1 (Int.le_of_lt hb)
    omega
  · rw [hA, show ((ib q : Int) - 1 - s + s.toNat).toNat + 1 = ib q from by omega]
    have := Int.mul_le_mul_of_nonneg_left (show q + 1 ≤ 2 ^ ib q from I.2.2) (Int.le_of_lt hb)
    rw [Int.mul_add, Int.mul_one] at this
    omega
theorem pack_bits {eb fb sign K P : Int} (e1 : 14 ≤ eb) (e2 : eb ≤ 16) (f1 : 3 ≤ fb) (f2 : fb ≤ 9) :
    packW eb (1 * 2 ^ eb.toNat - 1) (1 * 2 ^ fb.toNat) (1 - (1 * 2 ^ (eb - 1).toNat - 1) - fb) sign K P = sign * 2 ^ eb.toNat * 2 ^ fb.toNat + bitsW eb fb (2 ^ (eb - 1).toNat - 1) K (P + fb) := by
  have hv : (2 : Int) ^ (fb + 1).toNat = 2 * 2 ^ fb.toNat := by
    rw [show (fb + 1).toNat = fb.toNat + 1 from by omega, Int.pow_succ, Int.mul_comm]
  unfold packW bitsW
  rw [hv]
  rw [show Int.toNat 1 = 1 from rfl, Int.pow_one]
  simp only [Int.one_mul]
  generalize (2:Int) ^ eb.toNat = E
  generalize (2:Int) ^ (eb - 1).toNat = E'
  generalize (2:Int) ^ fb.toNat = H
  rw [Int.mul_comm H 2]
  have a1 : P + 1 - (1 - (E' - 1) - fb) + 1 = P + fb + 1 + (E' - 1) := by omega
  have a2 : P - (1 - (E' - 1) - fb) + 1 = P + fb + (E' - 1) := by omega
  rw [a1, a2]
  simp only [Int.add_mul, Int.zero_mul, Int.add_zero, Int.zero_add]
  by_cases c1 : K = 2 * H
  · rw [if_pos c1, if_pos c1]
    split
    · rfl
    · generalize sign * E * H = z
      omega
  · rw [if_neg c1, if_neg c1]
    by_cases c2 : K < H
    · rw [if_pos c2, if_pos c2]
    · rw [if_neg c2, if_neg c2]
      split
      · rfl
      · omega
theorem ratio_law {eb fb sign over under : Int} (e1 : 14 ≤ eb) (e2 : eb ≤ 16) (f1 : 3 ≤ fb) (f2 : fb ≤ 9) (ho : Bs over) (hn : Bs under) :
    ratioV eb fb (1 * 2 ^ eb.toNat - 1) (1 * 2 ^ fb.toNat) (1 - (1 * 2 ^ (eb - 1).toNat - 1) - fb) sign over under = sign * 2 ^ eb.toNat * 2 ^ fb.toNat + lawBits eb fb over under := by
  have hs := rsft_nn fb over under
  have hq := rq_pos (fb := fb) f1 ho hn
  have hqb := rq_bits (fb := fb) f1 ho hn
  have hf := flo_quo ho.1 hn.1 hq hs
  unfold ratioV packV
  have hmx : mx (0 - rsft fb over under + ib (rquo fb over under) - fb - 1) (1 - (1 * 2 ^ (eb - 1).toNat - 1) - fb) = mx (flo over under) (1 - (2 ^ (eb - 1).toNat - 1)) - fb := by
    rw [hf]
    unfold mx
    rw [Int.one_mul]
    generalize (2:Int) ^ (eb - 1).toNat = E'
    show _ = (if _ > (ib (rquo fb over under) : Int) - 1 - rsft fb over under then _ else (ib (rquo fb over under) : Int) - 1 - rsft fb over under) - fb
    generalize rsft fb over under = s
    generalize (ib (rquo fb over under) : Int) = i
    split <;> split <;> omega
  rw [hmx, pack_bits e1 e2 f1 f2]
  unfold lawBits
  have hk : 1 ≤ mx (flo over under) (1 - (2 ^ (eb - 1).toNat - 1)) - fb - (0 - rsft fb over under) := by
    have : flo over under ≤ mx (flo over under) (1 - (2 ^ (eb - 1).toNat - 1)) := by unfold mx; split <;> omega
    have h2 : flo over under = (ib (rquo fb over under) : Int) - 1 - rsft fb over under := hf
    omega
  have := near_rsh (a := over) hn.1 hs hk
  rw [show rquo fb over under = (over * 2 ^ (rsft fb over under).toNat).fdiv under from rfl, this, Int.sub_add_cancel]
section
variable {n : Int}
theorem dgs_all (h0 : 0 ≤ n) : NumText.AllDigits (dgs n) := by
  obtain ⟨m, rfl⟩ := Int.eq_ofNat_of_zero_le h0
  intro c hc
  rw [dgs, KIN.signs_num] at hc
  obtain ⟨ch, hch, e⟩ := List.mem_map.mp hc
  have r := digit_range (Nat.isDigit_of_mem_toDigits (by decide) (by decide) hch)
  rw [← e]
  exact r
theorem dgs_val (h0 : 0 ≤ n) : (NumText.digitsVal (dgs n) : Int) = n := by
  obtain ⟨m, rfl⟩ := Int.eq_ofNat_of_zero_le h0
  rw [dgs, KIN.signs_num, KIN.val_back]
theorem dgs_len : (dgs n).length = (Str.ofString (toString n)).length := strlen _
theorem dgs_pos (h0 : 0 ≤ n) : 1 ≤ (dgs n).length := by rw [dgs_len]; exact KLn.one_le h0
theorem dgs_le (h0 : 0 ≤ n) {k : Nat} (hk : 0 < k) (h : n < 10 ^ k) : (dgs n).length ≤ k := by rw [dgs_len]; exact toString_length_le h0 hk h
theorem head_digit : ∀ d : Nat, d < 10 → 1 ≤ d → (Nat.digitChar d).toNat ≠ 48 := by decide
theorem head_nz (m : Nat) : 1 ≤ m → ((Nat.toDigits 10 m).map Char.toNat).head? ≠ some 48 := by
  induction m using Nat.strongRecOn with
  | _ m ih =>
    intro h1
    by_cases h : m < 10
    · rw [Nat.toDigits_of_lt_base h]
      intro e
      exact head_digit m h h1 (Option.some.inj e)
    · have hm : m % 10 < 10 := Nat.mod_lt m (by decide)
      have t : Nat.toDigits 10 (m / 10) ++ Nat.toDigits 10 (m % 10) = Nat.toDigits 10 (10 * (m / 10) + m % 10) := Nat.toDigits_append_toDigits (by decide) (by omega) hm
      rw [Nat.div_add_mod] at t
      have q := ih (m / 10) (by omega) (by omega)
      rw [← t, List.map_append]
      have hp := dgs_pos (n := ((m / 10 : Nat) : Int)) (by omega)
      rw [dgs, KIN.signs_num] at hp
      match hl : (Nat.toDigits 10 (m / 10)).map Char.toNat, hp with
      | c :: r, _ =>
        rw [hl] at q
        exact q
theorem dgs_head (h0 : 0 ≤ n) (hl : 1 < (dgs n).length) : (dgs n).head? ≠ some 48 := by
  have hn : 1 ≤ n := by
    rcases Int.lt_or_le n 10 with q | q
    · have := dgs_le h0 (k := 1) (by decide) (by simpa using q)
      omega
    · omega
  obtain ⟨m, rfl⟩ := Int.eq_ofNat_of_zero_le h0
  rw [dgs, KIN.signs_num]
  exact head_nz m (by omega)
end
theorem all_app {a b : List Nat} (h : NumText.AllDigits a) (h2 : NumText.AllDigits b) : NumText.AllDigits (a ++ b) := by
  intro c hc
  rcases List.mem_append.mp hc with q | q
  · exact h c q
  · exact h2 c q
theorem fold_app (b : List Nat) : ∀ x : Nat, b.foldl (fun acc c => acc * 10 + (c - 48)) x = x * 10 ^ b.length + NumText.digitsVal b := by
  induction b with
  | nil => intro x; simp [NumText.digitsVal]
  | cons c b ih =>
    intro x
    rw [List.foldl_cons, ih, List.length_cons]
    show _ = x * 10 ^ (b.length + 1) + b.foldl (fun acc c => acc * 10 + (c - 48)) (0 * 10 + (c - 48))
    rw [ih (0 * 10 + (c - 48)), Nat.pow_succ, Nat.add_mul, Nat.zero_mul, Nat.zero_add, Nat.mul_assoc, Nat.mul_comm 10]
    omega
theorem val_app (a b : List Nat) : NumText.digitsVal (a ++ b) = NumText.digitsVal a * 10 ^ b.length + NumText.digitsVal b := by
  unfold NumText.digitsVal
  rw [List.foldl_append, fold_app]
  rfl
section
variable {f g : Int}
theorem vvN_eq (h0 : 0 ≤ f) (h1 : 0 ≤ g) : (vvN f g : Int) = f * 10 ^ (dgs g).length + g := by
  unfold vvN
  rw [val_app, Int.natCast_add, Int.natCast_mul, dgs_val h0, dgs_val h1, Int.natCast_pow]
  rfl
theorem sl_bd {g : Int} (h3 : 0 ≤ g) (h4 : g ≤ 999) : 1 ≤ sln g ∧ sln g ≤ 3 := by
  have a := dgs_pos h3
  have b := dgs_le h3 (k := 3) (by decide) (by omega)
  rw [dgs_len] at a b
  show 1 ≤ ((Str.ofString (toString g)).length : Int) ∧ ((Str.ofString (toString g)).length : Int) ≤ 3
  omega
theorem vv_pos (h1 : 1 ≤ f) (_ : f ≤ 9) (h3 : 0 ≤ g) (_ : g ≤ 999) : 0 < (vvN f g : Int) := by
  rw [vvN_eq (by omega) h3]
  have := Int.mul_pos (show 0 < f by omega) (ten_pos (dgs g).length)
  omega
theorem vv_lt (h1 : 1 ≤ f) (h2 : f ≤ 9) (h3 : 0 ≤ g) (h4 : g ≤ 999) : (vvN f g : Int) < 2 ^ 64 := by
  rw [vvN_eq (by omega) h3]
  have b := dgs_le h3 (k := 3) (by decide) (by omega)
  have a := dgs_pos h3
  have : (dgs g).length = 1 ∨ (dgs g).length = 2 ∨ (dgs g).length = 3 := by omega
  rcases this with e | e | e <;> rw [e] <;> omega
theorem app_cps (x y : Str) : (x ++ y).cps.toList = x.cps.toList ++ y.cps.toList := by rw [Str.cps_append, Array.toList_append]
theorem law_int (h1 : 1 ≤ f) (h2 : f ≤ 9) (h3 : 0 ≤ g) (h4 : g ≤ 999) : PySem.intText? (Str.ofString (toString f) ++ Str.ofString (toString g)) = some (vvN f g : Int) := by
  have a := dgs_le (n := f) (by omega) (k := 1) (by decide) (by omega)
  have b := dgs_le h3 (k := 3) (by decide) (by omega)
  have e : (Str.ofString (toString f) ++ Str.ofString (toString g)).cps.toList = dgs f ++ dgs g := app_cps _ _
  have p := dgs_pos h3
  have l := strlen (Str.ofString (toString f) ++ Str.ofString (toString g))
  rw [e, List.length_append] at l
  have q := intText_digits (x := Str.ofString (toString f) ++ Str.ofString (toString g)) (by rw [e]; exact all_app (dgs_all (by omega)) (dgs_all h3)) (by
    rw [e]; intro z
    have := congrArg List.length z
    rw [List.length_append, List.length_nil] at this
    omega) (by omega)
  rw [q, e]
  rfl
theorem law_int_len (h1 : 1 ≤ f) (h2 : f ≤ 9) (h3 : 0 ≤ g) (h4 : g ≤ 999) : (Str.ofString (toString f) ++ Str.ofString (toString g)).length ≤ 640 := by
  have a := dgs_le (n := f) (by omega) (k := 1) (by decide) (by omega)
  have b := dgs_le h3 (k := 3) (by decide) (by omega)
  have l := strlen (Str.ofString (toString f) ++ Str.ofString (toString g))
  rw [app_cps, List.length_append] at l
  have a' : (Str.ofString (toString f)).cps.toList.length ≤ 1 := a
  have b' : (Str.ofString (toString g)).cps.toList.length ≤ 3 := b
  omega
end
theorem one_eq {a : Nat} : ([a] != [a]) = false := by simp
theorem dec_of {tx : Str} {d1 d2 dn d3 : List Nat} {V : Nat} {far P : Int} (hT : tx.cps.toList = d1 ++ 46 :: (d2 ++ 69 :: (dn ++ d3)))
    (h1 : NumText.AllDigits d1) (h2 : NumText.AllDigits d2) (h3 : NumText.AllDigits d3) (l1 : 1 ≤ d1.length) (l1' : d1.length ≤ 20) (l2' : d2.length ≤ 20) (l3 : 1 ≤ d3.length) (l3' : d3.length ≤ 7)
    (hz : 1 < d3.length → d3.head? ≠ some 48) (hn : dn.length ≤ 1) (hV : NumText.digitsVal (d1 ++ d2) = V) (vp : 0 < V) (vs : V < 2 ^ 64)
    (hP : (dn = [] ∧ 1 * expf far d3 = P) ∨ (dn = [45] ∧ (-1) * expf far d3 = P)) : Dec tx d1 d2 d3 V far P := by
  have hl : tx.length = d1.length + (d2.length + (dn.length + d3.length + 1) + 1) := by
    rw [← strlen, hT]; simp only [List.length_append, List.length_cons]
  have hT2 : tx.cps.toList = (d1 ++ [46]) ++ (d2 ++ 69 :: (dn ++ d3)) := by rw [hT]; simp
  have hT3 : tx.cps.toList = (d1 ++ [46] ++ d2) ++ (69 :: (dn ++ d3)) := by rw [hT]; simp
  have hT4 : tx.cps.toList = (d1 ++ [46] ++ d2 ++ [69]) ++ (dn ++ d3) := by rw [hT]; simp
  have s1 : (Txt.slice tx none (some (d1.length : Int))).cps.toList = d1 := by
    rw [sl_ns (by omega) (by omega), hT, show ((d1.length : Int)).toNat = d1.length from by omega, List.take_left]
  have s2 : (Txt.slice tx (some ((d1.length : Int) + 1)) (some ((d1.length : Int) + 1 + d2.length))).cps.toList = d2 := by
    rw [sl_ss (by omega) (by omega) (by omega), hT2, show ((d1.length : Int) + 1).toNat = (d1 ++ [46]).length from by simp <;> omega, List.drop_left, show ((d1.length : Int) + 1 + d2.length - ((d1.length : Int) + 1)).toNat = d2.length from by omega, List.take_left]
  have s12 : (Txt.slice tx none (some (d1.length : Int)) ++ Txt.slice tx (some ((d1.length : Int) + 1)) (some ((d1.length : Int) + 1 + d2.length))).cps.toList = d1 ++ d2 := by
    rw [app_cps, s1, s2]
  have s4 : (Txt.slice tx (some ((d1.length : Int) + 1 + d2.length + 1)) none).cps.toList = dn ++ d3 := by
    rw [sl_sn (by omega) (by omega), hT4, show ((d1.length : Int) + 1 + d2.length + 1).toNat = (d1 ++ [46] ++ d2 ++ [69]).length from by simp <;> omega, List.drop_left]
  refine ⟨h3, l3, l3', hz, l1, l1', l2', by omega, by omega, ?_, ?_, ?_, ?_, ?_, vp, vs, ?_, ?_⟩
  · have := dend_at (pf := []) (d := d1) (c := 46) (r := d2 ++ 69 :: (dn ++ d3)) h1 (by decide)
    rw [List.nil_append, ← hT, List.length_nil, Nat.zero_add] at this
    show ((dend tx.cps.toList 0 : Nat) : Int) = _
    rw [this]
  · have := dend_at (pf := d1 ++ [46]) (d := d2) (c := 69) (r := dn ++ d3) h2 (by decide)
    rw [← hT2] at this
    rw [show ((d1.length : Int) + 1).toNat = (d1 ++ [46]).length from by simp <;> omega, this, List.length_append]
    simp
  · rw [sl_ss (by omega) (by omega) (by omega), hT, show ((d1.length : Int)).toNat = d1.length from by omega, List.drop_left, show ((d1.length : Int) + 1 - d1.length).toNat = 1 from by omega, cp_dot]
    exact one_eq
  · rw [s12]; exact all_app h1 h2
  · rw [s12]; exact hV
  · rw [ex_item (pf := d1 ++ [46] ++ d2) (d := 69 :: (dn ++ d3)) hT3 (by simp <;> omega) (by simp), cp_E]
    exact one_eq
  · rw [s4]
    rcases hP with ⟨e, p⟩ | ⟨e, p⟩
    · subst e; exact Or.inl ⟨rfl, p⟩
    · subst e; exact Or.inr ⟨rfl, p⟩
/-- the text's signs -/
theorem txt_cps (sd dn : Str) (f g v : Int) : (txt sd dn f g v).cps.toList = sd.cps.toList ++ (dgs f ++ 46 :: (dgs g ++ 69 :: (dn.cps.toList ++ dgs v))) := by
  unfold txt
  simp only [app_cps, cp_dot, cp_E, List.append_assoc]
  rfl
theorem head_ne {tx : Str} {a b : Nat} {r r2 : List Nat} {y : Str} (h : tx.cps.toList = a :: r) (hy : y.cps.toList = b :: r2) (hab : a ≠ b) : (tx.cps.toList == y.cps.toList) = false := by
  rw [h, hy]
  apply beq_eq_false_iff_ne.mpr
  intro e
  exact hab (List.cons.inj e).1
theorem first_ne {tx : Str} {a : Nat} {r : List Nat} (h : tx.cps.toList = a :: r) (ha : a ≠ 45) : ((Txt.slice tx none (some 1)).cps.toList == (Str.ofString "-").cps.toList) = false := by
  rw [ex_first (by rw [h]; simp), h, cp_minus]
  exact one_ne ha
theorem first_eq {tx : Str} {r : List Nat} (h : tx.cps.toList = 45 :: r) : ((Txt.slice tx none (some 1)).cps.toList == (Str.ofString "-").cps.toList) = true := by
  rw [ex_first (by rw [h]; simp), h, cp_minus]
  rfl
theorem tail_cps {tx : Str} {c : Nat} {r : List Nat} (h : tx.cps.toList = c :: r) : (Txt.slice tx (some 1) none).cps.toList = r := by
  have := strlen tx
  rw [h, List.length_cons] at this
  rw [sl_sn (by decide) (by omega), h]
  rfl
theorem expf_small {far v : Int} (h0 : 0 ≤ v) (h : v ≤ 9900) (hf : 9900 ≤ far) : expf far (dgs v) = v := by
  have a := dgs_le h0 (k := 4) (by decide) (by omega)
  have e := dgs_val h0
  unfold expf
  rw [List.take_of_length_le (show (dgs v).length ≤ 6 by omega), if_neg (by omega), e]
/-- a form as the law makes it -/
theorem form_b {eb fb : Int} (e1 : 14 ≤ eb) (e2 : eb ≤ 16) (f1 : 3 ≤ fb) (f2 : fb ≤ 9) : FormB eb fb (1 * 2 ^ eb.toNat - 1) (1 * 2 ^ fb.toNat) (1 - (1 * 2 ^ (eb - 1).toNat - 1) - fb) := by
  obtain ⟨a, b, c⟩ := two_eb e1 e2
  obtain ⟨x, y, _⟩ := two_fb f1 f2
  exact ⟨e1, e2, f1, f2, by omega, by omega, by omega, by omega, by omega, by omega⟩
theorem ten_add (a b : Nat) : (10:Int) ^ (a + b) = 10 ^ a * 10 ^ b := Int.pow_add 10 a b
section
variable {eb fb : Int} {V : Nat} {v l : Int}
theorem out_up (sign : Int) (e1 : 14 ≤ eb) (e2 : eb ≤ 16) (f1 : 3 ≤ fb) (f2 : fb ≤ 9) (hV : 0 < (V : Int)) (hV2 : (V : Int) < 2 ^ 64) (h0 : 0 ≤ v) (h1 : v ≤ 9900) (hl1 : 1 ≤ l) (hl2 : l ≤ 3) :
    decV eb fb (1 * 2 ^ eb.toNat - 1) (1 * 2 ^ fb.toNat) (1 - (1 * 2 ^ (eb - 1).toNat - 1) - fb) sign V (v - l) = sign * 2 ^ eb.toNat * 2 ^ fb.toNat + lawBits eb fb ((V : Int) * 10 ^ v.toNat) (10 ^ l.toNat) := by
  unfold decV
  by_cases h : 0 ≤ v - l
  · rw [if_pos h, ratio_law e1 e2 f1 f2 (bs_dp hV hV2 (by omega)) bs_one]
    congr 1
    have := lawBits_mul (eb := eb) (fb := fb) (a := (V : Int) * 10 ^ (v - l).toNat) (b := 1) (c := 10 ^ l.toNat) (Int.mul_pos hV (ten_pos _)) (by decide) (ten_pos _)
    rw [← this, Int.one_mul, Int.mul_assoc, ← ten_add, show (v - l).toNat + l.toNat = v.toNat from by omega]
  · rw [if_neg h, ratio_law e1 e2 f1 f2 (bs_small hV hV2) (bs_p10 (by omega))]
    congr 1
    have := lawBits_mul (eb := eb) (fb := fb) (a := (V : Int)) (b := 10 ^ (0 - (v - l)).toNat) (c := 10 ^ v.toNat) hV (ten_pos _) (ten_pos _)
    rw [← this, ← ten_add, show (0 - (v - l)).toNat + v.toNat = l.toNat from by omega]
theorem out_dn (sign : Int) (e1 : 14 ≤ eb) (e2 : eb ≤ 16) (f1 : 3 ≤ fb) (f2 : fb ≤ 9) (hV : 0 < (V : Int)) (hV2 : (V : Int) < 2 ^ 64) (h0 : 0 ≤ v) (h1 : v ≤ 9900) (hl1 : 1 ≤ l) (hl2 : l ≤ 3) :
    decV eb fb (1 * 2 ^ eb.toNat - 1) (1 * 2 ^ fb.toNat) (1 - (1 * 2 ^ (eb - 1).toNat - 1) - fb) sign V ((-1) * v - l) = sign * 2 ^ eb.toNat * 2 ^ fb.toNat + lawBits eb fb (V : Int) (10 ^ (v + l).toNat) := by
  unfold decV
  rw [if_neg (by omega), ratio_law e1 e2 f1 f2 (bs_small hV hV2) (bs_p10 (by omega)), show (0 - ((-1) * v - l)) = v + l from by omega]
end
theorem sign0 {E F z : Int} : 0 * E * F + z = z := by rw [Int.zero_mul, Int.zero_mul, Int.zero_add]
theorem sign1 {eb fb z : Int} (e1 : 14 ≤ eb) (f1 : 3 ≤ fb) : 1 * 2 ^ eb.toNat * 2 ^ fb.toNat + z = z + 2 ^ (eb + fb).toNat := by
  rw [Int.one_mul, ← Int.pow_add, show eb.toNat + fb.toNat = (eb + fb).toNat from by omega, Int.add_comm]
def Pw (s : Int) : Prop := ∃ k : Nat, s = 2 ^ k
def Bc (m m' c s : Int) : Prop := (Builtin.Int.intBits m : Int) = c + Builtin.Int.intBits m' ∧ ((s = 0 ∧ Builtin.Int.intBits m' ≤ 1) ∨ (Pw s ∧ (Builtin.Int.intBits m' : Int) ≤ 2 * s))
theorem bc1 {s : Int} (h : Pw s) : Pw (s * 2) := by
  obtain ⟨k, rfl⟩ := h
  exact ⟨k + 1, by rw [Int.pow_succ]⟩
theorem bc0 : Pw 1 := ⟨0, rfl⟩
theorem pw_pos {s : Int} (h : Pw s) : 0 < s := by obtain ⟨k, rfl⟩ := h; exact p2pos k
theorem pw_half {s : Int} (h : Pw s) : (s = 1 ∧ s.fdiv 2 = 0) ∨ (Pw (s.fdiv 2) ∧ s = 2 * s.fdiv 2) := by
  obtain ⟨k, rfl⟩ := h
  cases k with
  | zero => exact Or.inl ⟨rfl, by decide⟩
  | succ k =>
    have e : ((2:Int) ^ (k + 1)).fdiv 2 = 2 ^ k := by
      rw [Int.fdiv_eq_ediv_of_nonneg _ (by decide), Int.pow_succ, Int.mul_ediv_cancel _ (by decide)]
    exact Or.inr ⟨⟨k, e⟩, by rw [e, Int.pow_succ]; omega⟩
theorem le_shr {n : Int} {k : Nat} (h : 0 < n.fdiv (2 ^ k)) : 2 ^ k ≤ n := by
  rw [Int.fdiv_eq_ediv_of_nonneg _ (Int.le_of_lt (p2pos k))] at h
  have := (Int.le_ediv_iff_mul_le (p2pos k)).mp (show (1:Int) ≤ n / 2 ^ k from h)
  omega
theorem lt_shr {n : Int} {k : Nat} (h : ¬ 0 < n.fdiv (2 ^ k)) : n < 2 ^ k := by
  rw [Int.fdiv_eq_ediv_of_nonneg _ (Int.le_of_lt (p2pos k))] at h
  rcases Int.lt_or_le n (2 ^ k) with q | q
  · exact q
  · exfalso; apply h
    have := (Int.le_ediv_iff_mul_le (a := 1) (b := n) (p2pos k)).mpr (by omega)
    omega
theorem ib_shr {n : Int} {k : Nat} (h : 0 < n.fdiv (2 ^ k)) : ib (n.fdiv (2 ^ k)) + k = ib n := by
  have h2 := ib_pos h
  have hk := p2pos k
  rw [Int.fdiv_eq_ediv_of_nonneg _ (Int.le_of_lt hk)] at *
  generalize hq : n / 2 ^ k = q at *
  have e := Int.mul_ediv_add_emod n (2 ^ k)
  have r0 := Int.emod_nonneg n (Int.ne_of_gt hk)
  have r1 := Int.emod_lt_of_pos n hk
  rw [hq] at e
  have a1 : (2:Int) ^ k * 2 ^ (ib q - 1) ≤ 2 ^ k * q := Int.mul_le_mul_of_nonneg_left h2.2.1 (Int.le_of_lt hk)
  have a2 : (2:Int) ^ k * (q + 1) ≤ 2 ^ k * 2 ^ (ib q) := Int.mul_le_mul_of_nonneg_left h2.2.2 (Int.le_of_lt hk)
  rw [← Int.pow_add] at a1 a2
  rw [Int.mul_add, Int.mul_one] at a2
  have := ib_eq (x := n) (m := k + (ib q - 1)) (by omega) (by
    rw [show k + (ib q - 1) + 1 = k + ib q from by omega]; omega)
  omega
theorem bcm {m s : Int} (hm : 0 ≤ m) (hs : 1 ≤ s) (h : 0 < m.fdiv (2 ^ s.toNat)) : (m - s * 2).toNat < (m - s).toNat := by
  have a := le_shr h
  have b : s.toNat < 2 ^ s.toNat := Nat.lt_two_pow_self
  have c : ((2 ^ s.toNat : Nat) : Int) = 2 ^ s.toNat := by rw [Int.natCast_pow]; rfl
  omega
theorem bcm2 {s : Int} (hs : 0 < s) : (s.fdiv 2).toNat < s.toNat := by
  rw [Int.fdiv_eq_ediv_of_nonneg _ (by decide)]
  omega
theorem half_nn {s : Int} (hs : 0 < s) : 0 ≤ s.fdiv 2 := by
  rw [Int.fdiv_eq_ediv_of_nonneg _ (by decide)]
  omega
theorem bcs0 {m s : Int} (hm : 0 ≤ m) (hs : Pw s) (h : ¬ 0 < m.fdiv (2 ^ s.toNat)) : 0 ≤ m ∧ 0 ≤ s ∧ Bc m m 0 s := by
  have hp := pw_pos hs
  have := ib_le hm (lt_shr h)
  have e : ib m = Builtin.Int.intBits m := rfl
  exact ⟨hm, Int.le_of_lt hp, by omega, Or.inr ⟨hs, by omega⟩⟩
theorem bcs1 {m n c s : Int} (hn : 0 ≤ n) (hs : 0 < s) (hb : Bc m n c s) (h : 0 < n.fdiv (2 ^ s.toNat)) : 0 ≤ n.fdiv (2 ^ s.toNat) ∧ 0 ≤ s.fdiv 2 ∧ Bc m (n.fdiv (2 ^ s.toNat)) (c + s) (s.fdiv 2) := by
  obtain ⟨b1, b2⟩ := hb
  have e := ib_shr h
  have e2 : ib n = Builtin.Int.intBits n := rfl
  have e3 : ib (n.fdiv (2 ^ s.toNat)) = Builtin.Int.intBits (n.fdiv (2 ^ s.toNat)) := rfl
  rcases b2 with ⟨b2, _⟩ | ⟨b2, b3⟩
  · omega
  · refine ⟨Int.le_of_lt h, half_nn hs, by omega, ?_⟩
    rcases pw_half b2 with ⟨q1, q2⟩ | ⟨q1, q2⟩
    · exact Or.inl ⟨q2, by omega⟩
    · exact Or.inr ⟨q1, by omega⟩
theorem bcs2 {m n c s : Int} (hn : 0 ≤ n) (hs : 0 < s) (hb : Bc m n c s) (h : ¬ 0 < n.fdiv (2 ^ s.toNat)) : 0 ≤ n ∧ 0 ≤ s.fdiv 2 ∧ Bc m n c (s.fdiv 2) := by
  obtain ⟨b1, b2⟩ := hb
  have e := ib_le hn (lt_shr h)
  have e2 : ib n = Builtin.Int.intBits n := rfl
  rcases b2 with ⟨b2, _⟩ | ⟨b2, b3⟩
  · omega
  · refine ⟨hn, half_nn hs, by omega, ?_⟩
    rcases pw_half b2 with ⟨q1, q2⟩ | ⟨q1, q2⟩
    · exact Or.inl ⟨q2, by omega⟩
    · exact Or.inr ⟨q1, by omega⟩
theorem bce1 {m n c s : Int} (hb : Bc m n c s) (hn : 0 ≤ n) (hs : ¬ 0 < s) (h : 0 < n) : c + 1 = Builtin.Int.intBits m := by
  obtain ⟨b1, b2⟩ := hb
  have e := (ib_pos h).1
  have e2 : ib n = Builtin.Int.intBits n := rfl
  rcases b2 with ⟨_, b2⟩ | ⟨b2, _⟩
  · omega
  · have := pw_pos b2; omega
theorem bce2 {m n c s : Int} (hb : Bc m n c s) (hn : 0 ≤ n) (hs : ¬ 0 < s) (h : ¬ 0 < n) : c + 0 = Builtin.Int.intBits m := by
  obtain ⟨b1, b2⟩ := hb
  have e : n = 0 := by omega
  subst e
  have e2 : Builtin.Int.intBits 0 = 0 := by decide
  omega
theorem c_bit_count (w : World) (mean : ExcName → Option Value) (mg mb : Str → Option Value) (news : Led) (m : Int) (t : Tok) (hm : 0 ≤ m) :
    Cl w mean mg mb 1 70 news [.int m t] (fun r tl => tl = [] ∧ ∃ t', r = .int (ib m) t') := by
  dsimp only [Cl, PK, PV, PL, PP]
  k_with_none
  w_top off
  k_fill
  intro dp un gd cn cs a ccd cl outer A₀ base h₀ L mm s Q E B F X N T hk hd hu hret
  refine wpAny_call ?_
  k_dflt cell_enter
  k_with "state" => exact ⟨by omega, bc1 (by assumption)⟩
  k_with "state" => exact ⟨by omega, bc0⟩
  k_with "measure" => exact bcm hm (by assumption) (by assumption)
  k_with "state" => exact bcs0 hm (by assumption) (by assumption)
  k_with "state" => exact bcs1 (by assumption) (by assumption) (by assumption) (by assumption)
  k_with "state" => exact bcs2 (by assumption) (by assumption) (by assumption) (by assumption)
  k_with "measure" => exact bcm2 (by assumption)
  (repeat' (first | (k_unfold; (try dsimp only)) | (k_end; wrow_close) | ((fail_if_success (with_reducible show wpAny _ _ (PySem.exec (PySem.Stmt.While _ _ _ _) _) _ _ _)); first | walk1 | (dsimp only; walk1) | (leave1; try dsimp only)) | fail "no step"))
  k_while (fun _ s => 1 ≤ s ∧ Pw s) (fun _ s => (m - s).toNat) "step"
  (repeat' (first | (k_unfold; (try dsimp only)) | (k_end; wrow_close) | ((fail_if_success (with_reducible show wpAny _ _ (PySem.exec (PySem.Stmt.While _ _ _ _) _) _ _ _)); first | walk1 | (dsimp only; walk1) | (leave1; try dsimp only)) | fail "no step"))
  k_while (fun _ n c s => 0 ≤ n ∧ 0 ≤ s ∧ Bc m n c s) (fun _ _ _ s => s.toNat) "m" "count" "step"
  (repeat' (first | (k_unfold; (try dsimp only)) | (k_end; wrow_close) | ((fail_if_success (with_reducible show wpAny _ _ (PySem.exec (PySem.Stmt.While _ _ _ _) _) _ _ _)); first | walk1 | (dsimp only; walk1) | (leave1; try dsimp only)) | fail "no step"))
  all_goals (refine hret _ [] _ _ ?_ ?_ ⟨rfl, _, congrArg (fun z => Value.int z _) ?_⟩)
  all_goals first | assumption | exact bce1 (by assumption) (by assumption) (by assumption) (by assumption) | exact bce2 (by assumption) (by assumption) (by assumption) (by assumption)
theorem c_round (w : World) (mean : ExcName → Option Value) (mg mb : Str → Option Value) (news : Led) (m k : Int) (rest : Bool) (t t2 : Tok) (hm : Bk m) (hk1 : 1 ≤ k) (hk2 : k ≤ 1000000) :
    Cl w mean mg mb 1 77 news [.int m t, .int k t2, .bool rest] (fun r tl => tl = [] ∧ ∃ t', r = .int (rsh m k rest) t') := by
  dsimp only [Cl, PK, PV, PL, PP]
  k_with_none
  w_top off
  k_fill
  intro dp un gd cn cs a ccd cl outer A₀ base h₀ L mm s Q E B F X N T hk hd hu hret
  have hm0 := hm.nn
  refine wpAny_call ?_
  (k_dflt (refine' code_def ?k1 ?k2 ?k3 ?k4 ?k5 ?kA ?kF ?kK ?k6 ?k7 ?k8 ?k9 ?kB ?_ ?c2 ?c3 ?c4 ?c5; (case kA => exact rfl); (case kF => exact rfl); (case kK => first | exact rfl | assumption); (case k1 => k_asm); (case k2 => k_asm); (case k3 => k_asm); (case k4 => k_asm); (case k5 => k_asm); (case k6 => k_is); (case k7 => k_is); (case k8 => first | omega | ktr_room); (case k9 => first | exact BindsTo.of_eq rfl | exact binds_K (by k_in) rfl (by k_is) rfl rfl rfl); (case c5 => decide); (case kB => exact locs rfl); (case c2 => exact rfl); (case c3 => exact rfl); (case c4 => exact rfl); k_whole; intro g' L' h' FG' F' N' B' X' T'; (try dsimp only); (try k_lift B'); (try k_fold)))
  (repeat' (first | (k_unfold; (try dsimp only)) | ((with_reducible show wpAny _ _ (binaryOp PySem.Operator.LShift (Value.int _ _) (Value.int _ _)) _ _ _); refine PyProof.Rows.lshift_int ?ln ?lb ?_; (case ln => omega); (case lb => first | exact bk_add (bk_fdiv (by assumption)) (by omega) | exact bk_add (bk_small (by omega) (by omega)) (by omega))) | (k_end; wrow_close) | ((fail_if_success (with_reducible show wpAny _ _ (PySem.exec (PySem.Stmt.While _ _ _ _) _) _ _ _)); first | walk1 | (dsimp only; walk1) | (leave1; try dsimp only)) | fail "no step"))
  all_goals (refine hret _ [] _ _ ?_ ?_ ⟨rfl, _, congrArg (fun z => Value.int z _) ?_⟩)
  all_goals first | assumption | exact rsh1 (by assumption) | exact rsh2 (by assumption) (by assumption) | exact rsh3 (by assumption) (by assumption) | exact rsh4 (by assumption) (by assumption) (by assumption) | exact rsh5 (by assumption) (by assumption)
theorem c_join (w : World) (mean : ExcName → Option Value) (mg mb : Str → Option Value) (news : Led) (x dx : Addr) (eb fb bias top hidden least : Int) (k1 k2 k3 k4 k5 k6 v1 v2 v3 v4 v5 v6 : Tok)
    (hb : FormB eb fb top hidden least) (sign e f : Int) (t t2 t3 t4 : Tok) (hs1 : 0 ≤ sign) (hs2 : sign ≤ 1) :
    Cl w mean mg mb 2 42 ((x, instObj 31 dx) :: (dx, formD w eb fb bias top hidden least k1 k2 k3 k4 k5 k6 v1 v2 v3 v4 v5 v6) :: news) [.ref x, .int sign t2, .int e t3, .int f t4] (fun r tl => tl = [] ∧ ∃ t', r = .int ((sign * 2 ^ eb.toNat + e) * hidden + f) t') := by
  dsimp only [Cl, PK, PV, PL, PP, formD]
  k_with_none
  w_top off
  k_fill
  intro dp un gd cn cs a ccd cl outer A₀ base h₀ L mm s Q E B F X N T hk hd hu hret
  obtain ⟨e1, e2, f1, f2, hh1, hh2, l1, l2, tt1, tt2⟩ := id hb
  refine wpAny_call ?_
  (k_dflt (refine' code_def ?k1 ?k2 ?k3 ?k4 ?k5 ?kA ?kF ?kK ?k6 ?k7 ?k8 ?k9 ?kB ?_ ?c2 ?c3 ?c4 ?c5; (case kA => exact rfl); (case kF => exact rfl); (case kK => first | exact rfl | assumption); (case k1 => k_asm); (case k2 => k_asm); (case k3 => k_asm); (case k4 => k_asm); (case k5 => k_asm); (case k6 => k_is); (case k7 => k_is); (case k8 => first | omega | ktr_room); (case k9 => first | exact BindsTo.of_eq rfl | exact binds_K (by k_in) rfl (by k_is) rfl rfl rfl); (case c5 => decide); (case kB => exact locs rfl); (case c2 => exact rfl); (case c3 => exact rfl); (case c4 => exact rfl); k_whole; intro g' L' h' FG' F' N' B' X' T'; (try dsimp only); (try k_lift B'); (try k_fold)))
  (repeat' (first | (k_unfold; (try dsimp only)) | ((with_reducible show wpAny _ _ (binaryOp PySem.Operator.LShift (Value.int _ _) (Value.int _ _)) _ _ _); refine PyProof.Rows.lshift_int ?ln ?lb ?_; (case ln => omega); (case lb => first | exact bk_add (bk_small (by omega) (by omega)) (by omega))) | (k_end; wrow_close) | ((fail_if_success (with_reducible show wpAny _ _ (PySem.exec (PySem.Stmt.While _ _ _ _) _) _ _ _)); first | walk1 | (dsimp only; walk1) | (leave1; try dsimp only)) | fail "no step"))
  all_goals (refine hret _ [] _ _ ?_ ?_ ⟨rfl, _, rfl⟩)
  all_goals assumption
theorem c_inf (w : World) (mean : ExcName → Option Value) (mg mb : Str → Option Value) (news : Led) (x dx : Addr) (eb fb bias top hidden least : Int) (k1 k2 k3 k4 k5 k6 v1 v2 v3 v4 v5 v6 : Tok)
    (hb : FormB eb fb top hidden least) (sign : Int) (t2 : Tok) (hs1 : 0 ≤ sign) (hs2 : sign ≤ 1) :
    Cl w mean mg mb 3 49 ((x, instObj 31 dx) :: (dx, formD w eb fb bias top hidden least k1 k2 k3 k4 k5 k6 v1 v2 v3 v4 v5 v6) :: news) [.ref x, .int sign t2] (fun r tl => tl = [] ∧ ∃ t', r = .int ((sign * 2 ^ eb.toNat + top) * hidden + 0) t') := by
  dsimp only [Cl, PK, PV, PL, PP, formD]
  k_with_none
  w_top off
  k_fill
  intro dp un gd cn cs a ccd cl outer A₀ base h₀ L mm s Q E B F X N T hk hd hu hret
  refine wpAny_call ?_
  (k_dflt (refine' code_def ?k1 ?k2 ?k3 ?k4 ?k5 ?kA ?kF ?kK ?k6 ?k7 ?k8 ?k9 ?kB ?_ ?c2 ?c3 ?c4 ?c5; (case kA => exact rfl); (case kF => exact rfl); (case kK => first | exact rfl | assumption); (case k1 => k_asm); (case k2 => k_asm); (case k3 => k_asm); (case k4 => k_asm); (case k5 => k_asm); (case k6 => k_is); (case k7 => k_is); (case k8 => first | omega | ktr_room); (case k9 => first | exact BindsTo.of_eq rfl | exact binds_K (by k_in) rfl (by k_is) rfl rfl rfl); (case c5 => decide); (case kB => exact locs rfl); (case c2 => exact rfl); (case c3 => exact rfl); (case c4 => exact rfl); k_whole; intro g' L' h' FG' F' N' B' X' T'; (try dsimp only); (try k_lift B'); (try k_fold)))
  (repeat' (first | (k_unfold; (try dsimp only)) | ((with_reducible show wpAny _ _ (PySem.call (Value.ref 42) _ _) _ _ _); k_dflt (refine' (c_join _ _ _ _ _ _ _ _ _ _ _ _ _ _ _ _ _ _ _ _ _ _ _ _ _ hb _ _ _ 0 _ _ _ ?q1 ?q2) _ _ _ _ _ _ _ _ _ _ _ _ _ _ _ _ _ ?k1 ?k2 ?k3 ?k4 ?k5 ?k6 ?k7 ?k8 ?_; (case k1 => k_asm); (case k2 => k_asm); (case k3 => k_asm); (case k4 => first | k_asm | exact led_front (by k_asm) (by k_mem) (by k_mem)); (case k5 => k_asm); (case k6 => first | exact rfl | assumption); (case k7 => first | omega | ktr_room); (case k8 => first | omega | ktr_units); (case q1 => omega); (case q2 => omega); rintro _ _ h' tk' F' N' ⟨rfl, t', rfl⟩; (try simp only [List.nil_append, List.cons_append] at N'); (try dsimp only); (try k_fold))) | (k_end; wrow_close) | ((fail_if_success (with_reducible show wpAny _ _ (PySem.exec (PySem.Stmt.While _ _ _ _) _) _ _ _)); first | walk1 | (dsimp only; walk1) | (leave1; try dsimp only)) | fail "no step"))
  all_goals (refine hret _ [] _ _ ?_ ?_ ⟨rfl, _, rfl⟩)
  all_goals assumption
theorem c_pack (w : World) (mean : ExcName → Option Value) (mg mb : Str → Option Value) (news : Led) (x dx : Addr) (eb fb bias top hidden least : Int) (k1 k2 k3 k4 k5 k6 v1 v2 v3 v4 v5 v6 : Tok)
    (hb : FormB eb fb top hidden least) (sign m e : Int) (rest : Bool) (t t2 t3 t4 : Tok) (hs1 : 0 ≤ sign) (hs2 : sign ≤ 1) (hm : Bk m) (hm3 : 0 < m) (hm2 : fb + 2 ≤ ib m) (he1 : -100000 ≤ e) (he2 : e ≤ 0) :
    Cl w mean mg mb 5 85 ((x, instObj 31 dx) :: (dx, formD w eb fb bias top hidden least k1 k2 k3 k4 k5 k6 v1 v2 v3 v4 v5 v6) :: news) [.ref x, .int sign t2, .int m t3, .int e t4, .bool rest] (fun r tl => tl = [] ∧ ∃ t', r = .int (packV eb fb top hidden least sign m e rest) t') := by
  dsimp only [Cl, PK, PV, PL, PP, formD]
  k_with_none
  w_top off
  k_fill
  intro dp un gd cn cs a ccd cl outer A₀ base h₀ L mm s Q E B F X N T hk hd hu hret
  have hm0 := hm.nn
  have hmb := hm.2
  obtain ⟨e1, e2, f1, f2, hh1, hh2, l1, l2, tt1, tt2⟩ := id hb
  refine wpAny_call ?_
  (k_dflt (refine' code_def ?k1 ?k2 ?k3 ?k4 ?k5 ?kA ?kF ?kK ?k6 ?k7 ?k8 ?k9 ?kB ?_ ?c2 ?c3 ?c4 ?c5; (case kA => exact rfl); (case kF => exact rfl); (case kK => first | exact rfl | assumption); (case k1 => k_asm); (case k2 => k_asm); (case k3 => k_asm); (case k4 => k_asm); (case k5 => k_asm); (case k6 => k_is); (case k7 => k_is); (case k8 => first | omega | ktr_room); (case k9 => first | exact BindsTo.of_eq rfl | exact binds_K (by k_in) rfl (by k_is) rfl rfl rfl); (case c5 => decide); (case kB => exact locs rfl); (case c2 => exact rfl); (case c3 => exact rfl); (case c4 => exact rfl); k_whole; intro g' L' h' FG' F' N' B' X' T'; (try dsimp only); (try k_lift B'); (try k_fold)))
  (repeat' (first | (k_unfold; (try dsimp only)) | ((with_reducible show wpAny _ _ (PySem.call (Value.ref 63) _ _) _ _ _); exfalso; omega) | ((with_reducible show wpAny _ _ (PySem.call (Value.ref 70) _ _) _ _ _); k_dflt (refine' (c_bit_count _ _ _ _ _ _ _ ?q1) _ _ _ _ _ _ _ _ _ _ _ _ _ _ _ _ _ ?k1 ?k2 ?k3 ?k4 ?k5 ?k6 ?k7 ?k8 ?_; (case k1 => k_asm); (case k2 => k_asm); (case k3 => k_asm); (case k4 => k_asm); (case k5 => k_asm); (case k6 => first | exact rfl | assumption); (case k7 => first | omega | ktr_room); (case k8 => first | omega | ktr_units); (case q1 => assumption); rintro _ _ h' tk' F' N' ⟨rfl, t', rfl⟩; (try simp only [List.nil_append, List.cons_append] at N'); (try dsimp only); (try k_fold))) | ((with_reducible show wpAny _ _ (PySem.call (Value.ref 77) _ _) _ _ _); k_dflt (refine' (c_round _ _ _ _ _ _ _ _ _ _ ?q1 ?q2 ?q3) _ _ _ _ _ _ _ _ _ _ _ _ _ _ _ _ _ ?k1 ?k2 ?k3 ?k4 ?k5 ?k6 ?k7 ?k8 ?_; (case k1 => k_asm); (case k2 => k_asm); (case k3 => k_asm); (case k4 => k_asm); (case k5 => k_asm); (case k6 => first | exact rfl | assumption); (case k7 => first | omega | ktr_room); (case k8 => first | omega | ktr_units); (case q1 => assumption); (case q2 => exact mx1 (by omega)); (case q3 => exact mx2 (by omega) (by omega)); rintro _ _ h' tk' F' N' ⟨rfl, t', rfl⟩; (try simp only [List.nil_append, List.cons_append] at N'); (try dsimp only); (try k_fold))) | ((with_reducible show wpAny _ _ (PySem.call (Value.ref 42) _ _) _ _ _); k_dflt (refine' (c_join _ _ _ _ _ _ _ _ _ _ _ _ _ _ _ _ _ _ _ _ _ _ _ _ _ hb _ _ _ 0 _ _ _ ?q1 ?q2) _ _ _ _ _ _ _ _ _ _ _ _ _ _ _ _ _ ?k1 ?k2 ?k3 ?k4 ?k5 ?k6 ?k7 ?k8 ?_; (case k1 => k_asm); (case k2 => k_asm); (case k3 => k_asm); (case k4 => first | k_asm | exact led_front (by k_asm) (by k_mem) (by k_mem)); (case k5 => k_asm); (case k6 => first | exact rfl | assumption); (case k7 => first | omega | ktr_room); (case k8 => first | omega | ktr_units); (case q1 => omega); (case q2 => omega); rintro _ _ h' tk' F' N' ⟨rfl, t', rfl⟩; (try simp only [List.nil_append, List.cons_append] at N'); (try dsimp only); (try k_fold))) | ((with_reducible show wpAny _ _ (PySem.call (Value.ref 49) _ _) _ _ _); k_dflt (refine' (c_inf _ _ _ _ _ _ _ _ _ _ _ _ _ _ _ _ _ _ _ _ _ _ _ _ _ hb _ _ ?q1 ?q2) _ _ _ _ _ _ _ _ _ _ _ _ _ _ _ _ _ ?k1 ?k2 ?k3 ?k4 ?k5 ?k6 ?k7 ?k8 ?_; (case k1 => k_asm); (case k2 => k_asm); (case k3 => k_asm); (case k4 => first | k_asm | exact led_front (by k_asm) (by k_mem) (by k_mem)); (case k5 => k_asm); (case k6 => first | exact rfl | assumption); (case k7 => first | omega | ktr_room); (case k8 => first | omega | ktr_units); (case q1 => omega); (case q2 => omega); rintro _ _ h' tk' F' N' ⟨rfl, t', rfl⟩; (try simp only [List.nil_append, List.cons_append] at N'); (try dsimp only); (try k_fold))) | ((with_reducible show wpAny _ _ (binaryOp PySem.Operator.LShift (Value.int _ _) (Value.int _ _)) _ _ _); refine PyProof.Rows.lshift_int ?ln ?lb ?_; (case ln => omega); (case lb => first | exact bk_add (bk_small (by omega) (by omega)) (by omega))) | (k_end; wrow_close) | ((fail_if_success (with_reducible show wpAny _ _ (PySem.exec (PySem.Stmt.While _ _ _ _) _) _ _ _)); first | walk1 | (dsimp only; walk1) | (leave1; try dsimp only)) | fail "no step"))
  all_goals (refine hret _ [] _ _ ?_ ?_ ⟨rfl, _, congrArg (fun z => Value.int z _) ?_⟩)
  all_goals first | assumption | exact pw1 (by assumption) (by assumption) | exact pw2 (by assumption) (by assumption) | exact pw3 (by assumption) (by assumption) | exact pw4 (by assumption) (by assumption) (by assumption) | exact pw5 (by assumption) (by assumption) (by assumption)
theorem c_ratio (w : World) (mean : ExcName → Option Value) (mg mb : Str → Option Value) (news : Led) (x dx : Addr) (eb fb bias top hidden least : Int) (k1 k2 k3 k4 k5 k6 v1 v2 v3 v4 v5 v6 : Tok)
    (hb : FormB eb fb top hidden least) (sign over under : Int) (t t2 t3 t4 : Tok) (hs1 : 0 ≤ sign) (hs2 : sign ≤ 1) (ho : Bs over) (hn : Bs under) :
    Cl w mean mg mb 120 93 ((x, instObj 31 dx) :: (dx, formD w eb fb bias top hidden least k1 k2 k3 k4 k5 k6 v1 v2 v3 v4 v5 v6) :: news) [.ref x, .int sign t2, .int over t3, .int under t4] (fun r tl => tl = [] ∧ ∃ t', r = .int (ratioV eb fb top hidden least sign over under) t') := by
  dsimp only [Cl, PK, PV, PL, PP, formD]
  k_with_none
  w_top off
  k_fill
  intro dp un gd cn cs a ccd cl outer A₀ base h₀ L mm s Q E B F X N T hk hd hu hret
  have ho0 := ho.nn
  have hn0 := hn.nn
  have hop := ho.pos
  have hnp := hn.pos
  have hob := ho.2
  have hnb := hn.2
  have hd' : dp + 120 < 1000 := hd
  have hq1 := rq_bk (fb := fb) hb.f2 ho hn
  have hq2 := rq_pos (fb := fb) hb.f1 ho hn
  have hq3 := rq_bits (fb := fb) hb.f1 ho hn
  obtain ⟨e1, e2, f1, f2, hh1, hh2, l1, l2, tt1, tt2⟩ := id hb
  refine wpAny_call ?_
  (k_dflt (refine' code_def ?k1 ?k2 ?k3 ?k4 ?k5 ?kA ?kF ?kK ?k6 ?k7 ?k8 ?k9 ?kB ?_ ?c2 ?c3 ?c4 ?c5; (case kA => exact rfl); (case kF => exact rfl); (case kK => first | exact rfl | assumption); (case k1 => k_asm); (case k2 => k_asm); (case k3 => k_asm); (case k4 => k_asm); (case k5 => k_asm); (case k6 => k_is); (case k7 => k_is); (case k8 => first | omega | ktr_room); (case k9 => first | exact BindsTo.of_eq rfl | exact binds_K (by k_in) rfl (by k_is) rfl rfl rfl); (case c5 => decide); (case kB => exact locs rfl); (case c2 => exact rfl); (case c3 => exact rfl); (case c4 => exact rfl); k_whole; intro g' L' h' FG' F' N' B' X' T'; (try dsimp only); (try k_lift B'); (try k_fold)))
  (repeat' (first | (k_unfold; (try dsimp only)) | ((with_reducible show wpAny _ _ (PySem.call (Value.ref 70) _ _) _ _ _); k_dflt (refine' (c_bit_count _ _ _ _ _ _ _ ?q1) _ _ _ _ _ _ _ _ _ _ _ _ _ _ _ _ _ ?k1 ?k2 ?k3 ?k4 ?k5 ?k6 ?k7 ?k8 ?_; (case k1 => k_asm); (case k2 => k_asm); (case k3 => k_asm); (case k4 => k_asm); (case k5 => k_asm); (case k6 => first | exact rfl | assumption); (case k7 => first | omega | ktr_room); (case k8 => first | omega | ktr_units); (case q1 => assumption); rintro _ _ h' tk' F' N' ⟨rfl, t', rfl⟩; (try simp only [List.nil_append, List.cons_append] at N'); (try dsimp only); (try k_fold))) | ((with_reducible show wpAny _ _ (PySem.call (Value.ref 85) _ _) _ _ _); k_dflt (refine' (c_pack _ _ _ _ _ _ _ _ _ _ _ _ _ _ _ _ _ _ _ _ _ _ _ _ _ hb _ _ _ _ 0 _ _ _ ?q1 ?q2 ?q3 ?q4 ?q5 ?q6 ?q7) _ _ _ _ _ _ _ _ _ _ _ _ _ _ _ _ _ ?k1 ?k2 ?k3 ?k4 ?k5 ?k6 ?k7 ?k8 ?_; (case k1 => k_asm); (case k2 => k_asm); (case k3 => k_asm); (case k4 => first | k_asm | exact led_front (by k_asm) (by k_mem) (by k_mem)); (case k5 => k_asm); (case k6 => first | exact rfl | assumption); (case k7 => first | omega | ktr_room); (case k8 => first | omega | ktr_units); (case q1 => omega); (case q2 => omega); (case q3 => assumption); (case q4 => assumption); (case q5 => assumption); (case q6 => (split <;> omega)); (case q7 => (split <;> omega)); rintro _ _ h' tk' F' N' ⟨rfl, t', rfl⟩; (try simp only [List.nil_append, List.cons_append] at N'); (try dsimp only); (try k_fold))) | ((with_reducible show wpAny _ _ (binaryOp PySem.Operator.LShift (Value.int _ _) (Value.int _ _)) _ _ _); refine PyProof.Rows.lshift_int ?ln ?lb ?_; (case ln => omega); (case lb => first | exact bk_add (Bs.bk (by assumption)) (by split <;> omega))) | ((with_reducible show wpAny _ _ (binaryOp PySem.Operator.FloorDiv (Value.int _ _) (Value.int _ _)) _ _ _); refine PyProof.Rows.floordiv_int ?fb ?_ ?fp; (case fb => omega); (case fp => exact Or.inr (PySem.PylongRoom.of (by (refine PySem.Heap.NoLimit.keeps ?_ (PyProof.Rows.Fr.keep (by assumption)); exact PyProof.Rows.Top.nolimit (by assumption))) (by (show dp + 1 + 100 < 1000; omega))))) | ((with_reducible show wpAny _ _ (binaryOp PySem.Operator.Mult (Value.int _ _) (Value.int _ _)) _ _ _); refine PyProof.Rows.mul_int ?_ ?fm; (case fm => exact bk_mul hq1 hn.bk)) | (k_end; wrow_close) | ((fail_if_success (with_reducible show wpAny _ _ (PySem.exec (PySem.Stmt.While _ _ _ _) _) _ _ _)); first | walk1 | (dsimp only; walk1) | (leave1; try dsimp only)) | fail "no step"))
  all_goals (refine hret _ [] _ _ ?_ ?_ ⟨rfl, _, rfl⟩)
  all_goals assumption
theorem c_near (w : World) (mean : ExcName → Option Value) (mg mb : Str → Option Value) (news : Led) (over under k : Int) (t t2 t3 : Tok) (ho : Bs over) (hn : Bs under) (hk1 : -100000 ≤ k) (hk2 : k ≤ 100000) :
    Cl w mean mg mb 120 149 news [.int over t, .int under t2, .int k t3] (fun r tl => tl = [] ∧ ∃ t', r = .int (near over under k) t') := by
  dsimp only [Cl, PK, PV, PL, PP]
  k_with_none
  w_top off
  k_fill
  intro dp un gd cn cs a ccd cl outer A₀ base h₀ L mm s Q E B F X N T hk hd hu hret
  have ho0 := ho.nn
  have hn0 := hn.nn
  have hop := ho.pos
  have hnp := hn.pos
  have hd' : dp + 120 < 1000 := hd
  have hp1 : 0 < under * 2 ^ k.toNat := Int.mul_pos hnp (Int.pow_pos (by decide))
  refine wpAny_call ?_
  (k_dflt (refine' code_def ?k1 ?k2 ?k3 ?k4 ?k5 ?kA ?kF ?kK ?k6 ?k7 ?k8 ?k9 ?kB ?_ ?c2 ?c3 ?c4 ?c5; (case kA => exact rfl); (case kF => exact rfl); (case kK => first | exact rfl | assumption); (case k1 => k_asm); (case k2 => k_asm); (case k3 => k_asm); (case k4 => k_asm); (case k5 => k_asm); (case k6 => k_is); (case k7 => k_is); (case k8 => first | omega | ktr_room); (case k9 => first | exact BindsTo.of_eq rfl | exact binds_K (by k_in) rfl (by k_is) rfl rfl rfl); (case c5 => decide); (case kB => exact locs rfl); (case c2 => exact rfl); (case c3 => exact rfl); (case c4 => exact rfl); k_whole; intro g' L' h' FG' F' N' B' X' T'; (try dsimp only); (try k_lift B'); (try k_fold)))
  (repeat' (first | (k_unfold; (try dsimp only)) | ((with_reducible show wpAny _ _ (binaryOp PySem.Operator.LShift (Value.int _ _) (Value.int _ _)) _ _ _); refine PyProof.Rows.lshift_int ?ln ?lb ?_; (case ln => omega); (case lb => first | exact bk_add (Bs.bk (by assumption)) (by omega))) | ((with_reducible show wpAny _ _ (binaryOp PySem.Operator.FloorDiv (Value.int _ _) (Value.int _ _)) _ _ _); refine PyProof.Rows.floordiv_int ?fb ?_ ?fp; (case fb => omega); (case fp => exact Or.inr (PySem.PylongRoom.of (by (refine PySem.Heap.NoLimit.keeps ?_ (PyProof.Rows.Fr.keep (by assumption)); exact PyProof.Rows.Top.nolimit (by assumption))) (by (show dp + 1 + 100 < 1000; omega))))) | ((with_reducible show wpAny _ _ (binaryOp PySem.Operator.Mult (Value.int _ _) (Value.int _ _)) _ _ _); refine PyProof.Rows.mul_int ?_ ?fm; (case fm => first | exact bk_mul (bk_quo (bk_shl ho (by omega)) hnp) hn.bk | exact bk_mul (bk_quo ho.bk hp1) (bk_shl hn (by omega)))) | (k_end; wrow_close) | ((fail_if_success (with_reducible show wpAny _ _ (PySem.exec (PySem.Stmt.While _ _ _ _) _) _ _ _)); first | walk1 | (dsimp only; walk1) | (leave1; try dsimp only)) | fail "no step"))
  all_goals (refine hret _ [] _ _ ?_ ?_ ⟨rfl, _, congrArg (fun z => Value.int z _) ?_⟩)
  all_goals first | assumption | (refine near1 (by assumption) ?_; first | exact rne1 (by assumption) | exact rne2 (by assumption) (by assumption) | exact rne3 (by assumption) (by assumption) | exact rne4 (by assumption) (by assumption)) | (refine near2 (by assumption) ?_; first | exact rne1 (by assumption) | exact rne2 (by assumption) (by assumption) | exact rne3 (by assumption) (by assumption) | exact rne4 (by assumption) (by assumption))
theorem flo_bd {over under : Int} (h1 : ib over ≤ 50000) (h2 : ib under ≤ 50000) : -60000 ≤ flo over under ∧ flo over under ≤ 60000 := by
  unfold flo
  constructor <;> (split <;> split <;> omega)
theorem c_bits (w : World) (mean : ExcName → Option Value) (mg mb : Str → Option Value) (news : Led) (eb fb over under : Int) (t t2 t3 t4 : Tok) (e1 : 14 ≤ eb) (e2 : eb ≤ 16) (f1 : 3 ≤ fb) (f2 : fb ≤ 9) (ho : Bs over) (hn : Bs under) :
    Cl w mean mg mb 122 156 news [.int eb t, .int fb t2, .int over t3, .int under t4] (fun r tl => tl = [] ∧ ∃ t', r = .int (lawBits eb fb over under) t') := by
  dsimp only [Cl, PK, PV, PL, PP]
  k_with_none
  w_top off
  k_fill
  intro dp un gd cn cs a ccd cl outer A₀ base h₀ L mm s Q E B F X N T hk hd hu hret
  have ho0 := ho.nn
  have hn0 := hn.nn
  have hop := ho.pos
  have hnp := hn.pos
  have hob : Builtin.Int.intBits over ≤ 50000 := ho.2
  have hnb : Builtin.Int.intBits under ≤ 50000 := hn.2
  have hd' : dp + 122 < 1000 := hd
  obtain ⟨hw1, hw2, hw3⟩ := two_eb e1 e2
  obtain ⟨hv1, hv2, hv3⟩ := two_fb f1 f2
  obtain ⟨hf1, hf2⟩ := flo_bd hob hnb
  refine wpAny_call ?_
  (k_dflt (refine' code_def ?k1 ?k2 ?k3 ?k4 ?k5 ?kA ?kF ?kK ?k6 ?k7 ?k8 ?k9 ?kB ?_ ?c2 ?c3 ?c4 ?c5; (case kA => exact rfl); (case kF => exact rfl); (case kK => first | exact rfl | assumption); (case k1 => k_asm); (case k2 => k_asm); (case k3 => k_asm); (case k4 => k_asm); (case k5 => k_asm); (case k6 => k_is); (case k7 => k_is); (case k8 => first | omega | ktr_room); (case k9 => first | exact BindsTo.of_eq rfl | exact binds_K (by k_in) rfl (by k_is) rfl rfl rfl); (case c5 => decide); (case kB => exact locs rfl); (case c2 => exact rfl); (case c3 => exact rfl); (case c4 => exact rfl); k_whole; intro g' L' h' FG' F' N' B' X' T'; (try dsimp only); (try k_lift B'); (try k_fold)))
  (repeat' (first | (k_unfold; (try dsimp only)) | ((with_reducible show wpAny _ _ (PySem.exec (PySem.Stmt.If (PySem.Expr.IfExp _ _ _ _) _ _ _) _) _ _ _); (rename Fr _ _ _ _ => lF'); (rename News _ _ _ _ => lN'); refine cutW lF' lN' (Str.ofString "width_of") (flo over under) ?_ (fun h' tk' t' F' N' => (show wpAny _ _ _ _ _ _ from ?_))) | ((with_reducible show CutE _ _ _ _ _ _ _ _ _); first | (refine cut_st (by assumption) (by assumption) (fun p hp => hp) ?_; first | exact (flo1 (by assumption) (by assumption)).symm | exact (flo3 (by assumption) (by assumption)).symm) | (refine cut_id (by assumption) (by with_unfolding_all rfl) (by assumption) (fun p hp => hp) ?_; first | exact (flo2 (by assumption) (by assumption)).symm | exact (flo4 (by assumption) (by assumption)).symm)) | ((with_reducible show wpAny _ _ (PySem.call (Value.ref 149) _ _) _ _ _); k_dflt (refine' (c_near _ _ _ _ _ _ _ _ _ _ _ ?q1 ?q2 ?q3 ?q4) _ _ _ _ _ _ _ _ _ _ _ _ _ _ _ _ _ ?k1 ?k2 ?k3 ?k4 ?k5 ?k6 ?k7 ?k8 ?_; (case k1 => k_asm); (case k2 => k_asm); (case k3 => k_asm); (case k4 => k_asm); (case k5 => k_asm); (case k6 => first | exact rfl | assumption); (case k7 => first | omega | ktr_room); (case k8 => first | omega | ktr_units); (case q1 => assumption); (case q2 => assumption); (case q3 => (split <;> omega)); (case q4 => (split <;> omega)); rintro _ _ h' tk' F' N' ⟨rfl, t', rfl⟩; (try simp only [List.nil_append, List.cons_append] at N'); (try dsimp only); (try k_fold))) | ((with_reducible show wpAny _ _ (binaryOp PySem.Operator.LShift (Value.int _ _) (Value.int _ _)) _ _ _); refine PyProof.Rows.lshift_int ?ln ?lb ?_; (case ln => omega); (case lb => first | exact bk_add (Bs.bk (by assumption)) (by omega))) | (k_end; wrow_close) | ((fail_if_success (with_reducible show wpAny _ _ (PySem.exec (PySem.Stmt.While _ _ _ _) _) _ _ _)); first | walk1 | (dsimp only; walk1) | (leave1; try dsimp only)) | fail "no step"))
  all_goals (refine hret _ [] _ _ ?_ ?_ ⟨rfl, _, congrArg (fun z => Value.int z _) ?_⟩)
  all_goals first | assumption | (refine Eq.trans ?_ (lb_of rfl).symm; first | exact bw1 (by assumption) (by assumption) | exact bw2 (by assumption) (by first | assumption | (split <;> omega)) | exact bw3 (by assumption) (by assumption) | exact bw4 (by assumption) (by assumption) (by assumption) | exact bw5 (by assumption) (by assumption) (by first | assumption | (split <;> omega)))
theorem c_dend (w : World) (mean : ExcName → Option Value) (mg mb : Str → Option Value) (news : Led) (tx : Str) (n N : Int) (t t2 : Tok) (h1 : 0 ≤ n) (h2 : n ≤ tx.length) (hl : tx.length ≤ 1000) (hN : (dend tx.cps.toList n.toNat : Int) = N) :
    Cl w mean mg mb 1 100 news [.str tx t, .int n t2] (fun r tl => tl = [] ∧ ∃ t', r = .int N t') := by
  dsimp only [Cl, PK, PV, PL, PP]
  k_with_none
  w_top off
  k_fill
  intro dp un gd cn cs a ccd cl outer A₀ base h₀ L mm s Q E B F X N T hk hd hu hret
  refine wpAny_call ?_
  (k_dflt (refine' code_def ?k1 ?k2 ?k3 ?k4 ?k5 ?kA ?kF ?kK ?k6 ?k7 ?k8 ?k9 ?kB ?_ ?c2 ?c3 ?c4 ?c5; (case kA => exact rfl); (case kF => exact rfl); (case kK => first | exact rfl | assumption); (case k1 => k_asm); (case k2 => k_asm); (case k3 => k_asm); (case k4 => k_asm); (case k5 => k_asm); (case k6 => k_is); (case k7 => k_is); (case k8 => first | omega | ktr_room); (case k9 => first | exact BindsTo.of_eq rfl | exact binds_K (by k_in) rfl (by k_is) rfl rfl rfl); (case c5 => decide); (case kB => exact locs rfl); (case c2 => exact rfl); (case c3 => exact rfl); (case c4 => exact rfl); k_whole; intro g' L' h' FG' F' N' B' X' T'; (try dsimp only); (try k_lift B'); (try k_fold)))
  k_with "state" => exact de_turn (by assumption) (by assumption) (by assumption) (by assumption) (by assumption)
  k_with "state" => exact de_start h1 h2
  (repeat' (first | (k_unfold; (try dsimp only)) | (k_end; wrow_close) | ((fail_if_success (with_reducible show wpAny _ _ (PySem.exec (PySem.Stmt.While _ _ _ _) _) _ _ _)); first | walk1 | (dsimp only; walk1) | (leave1; try dsimp only)) | fail "no step"))
  k_while (fun _ k => n ≤ k ∧ k ≤ tx.length ∧ dend tx.cps.toList k.toNat = dend tx.cps.toList n.toNat) (fun _ k => (tx.length - k).toNat) "at"
  (repeat' (first | (k_unfold; (try dsimp only)) | (k_end; wrow_close) | ((fail_if_success (with_reducible show wpAny _ _ (PySem.exec (PySem.Stmt.While _ _ _ _) _) _ _ _)); first | walk1 | (dsimp only; walk1) | (leave1; try dsimp only)) | fail "no step"))
  all_goals (refine hret _ [] _ _ ?_ ?_ ⟨rfl, _, congrArg (fun z => Value.int z _) ?_⟩)
  all_goals first | assumption | exact de_out1 (by assumption) (by assumption) (by assumption) (by assumption) (by assumption) (by assumption) | exact de_out2 (by assumption) (by assumption) (by assumption) (by assumption) (by assumption) (by assumption)
theorem dg_mem {tx : Str} {pre post : List Int} {n : Nat} (he : KStt.codes tx = pre ++ (n : Int) :: post) (hd : NumText.AllDigits tx.cps.toList) : 48 ≤ n ∧ n ≤ 57 := by
  have hm : (n : Int) ∈ KStt.codes tx := by rw [he]; simp
  obtain ⟨c, hc, e⟩ := List.mem_map.mp hm
  have e' : c = n := Int.ofNat.inj e
  subst e'
  exact hd c hc
theorem dg_find {c : Nat} (h : 48 ≤ c ∧ c ≤ 57) : Txt.find (Str.ofString "0123456789") ⟨#[c]⟩ = (c : Int) - 48 := by
  have : c = 48 ∨ c = 49 ∨ c = 50 ∨ c = 51 ∨ c = 52 ∨ c = 53 ∨ c = 54 ∨ c = 55 ∨ c = 56 ∨ c = 57 := by omega
  rcases this with rfl | rfl | rfl | rfl | rfl | rfl | rfl | rfl | rfl | rfl <;> decide +kernel
theorem dg_no {tx : Str} {pre post : List Int} {n : Nat} (he : KStt.codes tx = pre ++ (n : Int) :: post) (hd : NumText.AllDigits tx.cps.toList) (h : Txt.find (Str.ofString "0123456789") ⟨#[n]⟩ = -1) : False := by
  have := dg_mem he hd
  rw [dg_find this] at h
  omega
theorem dg_turn {tx : Str} {pre post : List Int} {n : Nat} {v : Int} (he : KStt.codes tx = pre ++ (n : Int) :: post) (hd : NumText.AllDigits tx.cps.toList) (hv : v = (NumText.digitsVal (pre.map Int.toNat) : Int)) :
    v * 10 + Txt.find (Str.ofString "0123456789") ⟨#[n]⟩ = (NumText.digitsVal ((pre ++ [(n : Int)]).map Int.toNat) : Int) := by
  have h := dg_mem he hd
  rw [dg_find h, List.map_append, hv]
  show _ = ((NumText.digitsVal (List.map Int.toNat pre ++ [n]) : Nat) : Int)
  rw [NumText.digitsVal_snoc]
  omega
theorem dg_done {tx : Str} {V : Nat} {v : Int} (hv : v = (NumText.digitsVal ((KStt.codes tx).map Int.toNat) : Int)) (hV : NumText.digitsVal tx.cps.toList = V) : v = V := by
  have e : (KStt.codes tx).map Int.toNat = tx.cps.toList := by
    unfold KStt.codes
    rw [List.map_map]
    exact (List.map_congr_left (g := _root_.id) fun c _ => Int.toNat_natCast c).trans (List.map_id _)
  rw [hv, e, hV]
theorem c_digits (w : World) (mean : ExcName → Option Value) (mg mb : Str → Option Value) (news : Led) (tx : Str) (t : Tok) (V : Nat) (hd : NumText.AllDigits tx.cps.toList) (hV : NumText.digitsVal tx.cps.toList = V) :
    Cl w mean mg mb 1 107 news [.str tx t] (fun r tl => tl = [] ∧ ∃ t', r = .int V t') := by
  dsimp only [Cl, PK, PV, PL, PP]
  k_with_none
  w_top off
  k_fill
  intro dp un gd cn cs a ccd cl outer A₀ base h₀ L mm s Q E B F X N T hk hd' hu hret
  refine wpAny_call ?_
  (k_dflt (refine' code_def ?k1 ?k2 ?k3 ?k4 ?k5 ?kA ?kF ?kK ?k6 ?k7 ?k8 ?k9 ?kB ?_ ?c2 ?c3 ?c4 ?c5; (case kA => exact rfl); (case kF => exact rfl); (case kK => first | exact rfl | assumption); (case k1 => k_asm); (case k2 => k_asm); (case k3 => k_asm); (case k4 => k_asm); (case k5 => k_asm); (case k6 => k_is); (case k7 => k_is); (case k8 => first | omega | ktr_room); (case k9 => first | exact BindsTo.of_eq rfl | exact binds_K (by k_in) rfl (by k_is) rfl rfl rfl); (case c5 => decide); (case kB => exact locs rfl); (case c2 => exact rfl); (case c3 => exact rfl); (case c4 => exact rfl); k_whole; intro g' L' h' FG' F' N' B' X' T'; (try dsimp only); (try k_lift B'); (try k_fold)))
  k_with "state" => exact dg_turn (by assumption) hd (by assumption)
  k_with "state" => exact rfl
  k_with "pyIter str" => k_state (fun pre v => v = (NumText.digitsVal (pre.map Int.toNat) : Int)) "found"
  (repeat' (first | (k_unfold; (try dsimp only)) | (k_end; wrow_close) | ((fail_if_success (with_reducible show wpAny _ _ (PySem.exec (PySem.Stmt.While _ _ _ _) _) _ _ _)); first | walk1 | (dsimp only; walk1) | (leave1; try dsimp only)) | fail "no step"))
  all_goals first | (exfalso; exact dg_no (by assumption) hd (by assumption)) | (refine hret _ [] _ _ ?_ ?_ ⟨rfl, _, congrArg (fun z => Value.int z _) ?_⟩)
  all_goals first | assumption | exact dg_done (by assumption) hV
theorem c_expo_p (w : World) (mean : ExcName → Option Value) (mg mb : Str → Option Value) (news : Led) (tx : Str) (d3 : List Nat) (far : Int) (t t2 : Tok) (hT : tx.cps.toList = d3) (hg : NumText.AllDigits d3) (hl1 : 1 ≤ d3.length) (hl2 : d3.length ≤ 7)
    (hz : 1 < d3.length → d3.head? ≠ some 48) (hf1 : 0 ≤ far) (hf2 : far ≤ 100000) :
    Cl w mean mg mb 3 121 news [.str tx t, .int far t2] (Tup (1 * expf far d3)) := by
  dsimp only [Cl, PK, PV, PL, PP]
  k_with_none
  w_top off
  k_fill
  intro dp un gd cn cs a ccd cl outer A₀ base h₀ L mm s Q E B F X N T hk hd hu hret
  have hL : tx.length = 0 + d3.length := ex_len (pf := []) hT
  have hh := dg_head hg hl1
  have q1 : ((Txt.slice tx none (some 1)).cps.toList == (Str.ofString "-").cps.toList) = false := by
    rw [ex_first (by rw [hT]; exact hl1), hT, cp_minus]; exact one_ne (by omega)
  have q2 : ((Txt.slice tx none (some 1)).cps.toList == (Str.ofString "+").cps.toList) = false := by
    rw [ex_first (by rw [hT]; exact hl1), hT, cp_plus]; exact one_ne (by omega)
  have hde : (dend tx.cps.toList (Int.toNat 0) : Int) = tx.length := ex_dend (pf := []) hT rfl hg
  have q4 : NumText.AllDigits (Txt.slice tx (some 0) (some (0 + 6))).cps.toList := by rw [ex_slice (pf := []) (o := 0) hT rfl]; exact take_digits hg
  have q5 : NumText.digitsVal (Txt.slice tx (some 0) (some (0 + 6))).cps.toList = NumText.digitsVal (d3.take 6) := by rw [ex_slice (pf := []) (o := 0) hT rfl]
  have q3 : 1 < d3.length → ((Txt.item tx 0).cps.toList == (Str.ofString "0").cps.toList) = false := ex_zero (pf := []) hT rfl hz
  refine wpAny_call ?_
  (k_dflt (refine' code_def ?k1 ?k2 ?k3 ?k4 ?k5 ?kA ?kF ?kK ?k6 ?k7 ?k8 ?k9 ?kB ?_ ?c2 ?c3 ?c4 ?c5; (case kA => exact rfl); (case kF => exact rfl); (case kK => first | exact rfl | assumption); (case k1 => k_asm); (case k2 => k_asm); (case k3 => k_asm); (case k4 => k_asm); (case k5 => k_asm); (case k6 => k_is); (case k7 => k_is); (case k8 => first | omega | ktr_room); (case k9 => first | exact BindsTo.of_eq rfl | exact binds_K (by k_in) rfl (by k_is) rfl rfl rfl); (case c5 => decide); (case kB => exact locs rfl); (case c2 => exact rfl); (case c3 => exact rfl); (case c4 => exact rfl); k_whole; intro g' L' h' FG' F' N' B' X' T'; (try dsimp only); (try k_lift B'); (try k_fold)))
  (repeat' (first | (k_unfold; (try dsimp only)) | ((with_reducible show wpAny _ _ (PySem.call (Value.ref 100) _ _) _ _ _); k_dflt (refine' (c_dend _ _ _ _ _ _ _ _ _ _ ?q1 ?q2 ?q3 ?q4) _ _ _ _ _ _ _ _ _ _ _ _ _ _ _ _ _ ?k1 ?k2 ?k3 ?k4 ?k5 ?k6 ?k7 ?k8 ?_; (case k1 => k_asm); (case k2 => k_asm); (case k3 => k_asm); (case k4 => k_asm); (case k5 => k_asm); (case k6 => first | exact rfl | assumption); (case k7 => first | omega | ktr_room); (case k8 => first | omega | ktr_units); (case q1 => omega); (case q2 => omega); (case q3 => omega); (case q4 => assumption); rintro _ _ h' tk' F' N' ⟨rfl, t', rfl⟩; (try simp only [List.nil_append, List.cons_append] at N'); (try dsimp only); (try k_fold))) | ((with_reducible show wpAny _ _ (PySem.call (Value.ref 107) _ _) _ _ _); k_dflt (refine' (c_digits _ _ _ _ _ _ _ _ ?q1 ?q2) _ _ _ _ _ _ _ _ _ _ _ _ _ _ _ _ _ ?k1 ?k2 ?k3 ?k4 ?k5 ?k6 ?k7 ?k8 ?_; (case k1 => k_asm); (case k2 => k_asm); (case k3 => k_asm); (case k4 => k_asm); (case k5 => k_asm); (case k6 => first | exact rfl | assumption); (case k7 => first | omega | ktr_room); (case k8 => first | omega | ktr_units); (case q1 => assumption); (case q2 => rfl); rintro _ _ h' tk' F' N' ⟨rfl, t', rfl⟩; (try simp only [List.nil_append, List.cons_append] at N'); (try dsimp only); (try k_fold))) | ((with_reducible show wpAny _ _ (compareOp PySem.CmpOp.Eq (Value.str _ _) (Value.str _ _)) _ _ _); first | (refine eqs_t ?sh ?_; (case sh => first | assumption | exact q3 (by omega))) | (refine eqs_f ?sh ?_; (case sh => first | assumption | exact q3 (by omega)))) | (k_end; wrow_close) | ((fail_if_success (with_reducible show wpAny _ _ (PySem.exec (PySem.Stmt.While _ _ _ _) _) _ _ _)); first | walk1 | (dsimp only; walk1) | (leave1; try dsimp only)) | fail "no step"))
  all_goals try (exfalso; omega)
  k_while (fun _ k => k = 0) (fun _ _ => 0) "start"
  subst kInv
  (repeat' (first | (k_unfold; (try dsimp only)) | ((with_reducible show wpAny _ _ (PySem.call (Value.ref 107) _ _) _ _ _); k_dflt (refine' (c_digits _ _ _ _ _ _ _ _ ?q1 ?q2) _ _ _ _ _ _ _ _ _ _ _ _ _ _ _ _ _ ?k1 ?k2 ?k3 ?k4 ?k5 ?k6 ?k7 ?k8 ?_; (case k1 => k_asm); (case k2 => k_asm); (case k3 => k_asm); (case k4 => k_asm); (case k5 => k_asm); (case k6 => first | exact rfl | assumption); (case k7 => first | omega | ktr_room); (case k8 => first | omega | ktr_units); (case q1 => assumption); (case q2 => rfl); rintro _ _ h' tk' F' N' ⟨rfl, t', rfl⟩; (try simp only [List.nil_append, List.cons_append] at N'); (try dsimp only); (try k_fold))) | ((with_reducible show wpAny _ _ (compareOp PySem.CmpOp.Eq (Value.str _ _) (Value.str _ _)) _ _ _); first | (refine eqs_t ?sh ?_; (case sh => first | assumption | exact q3 (by omega))) | (refine eqs_f ?sh ?_; (case sh => first | assumption | exact q3 (by omega)))) | (k_end; wrow_close) | ((fail_if_success (with_reducible show wpAny _ _ (PySem.exec (PySem.Stmt.While _ _ _ _) _) _ _ _)); first | walk1 | (dsimp only; walk1) | (leave1; try dsimp only)) | fail "no step"))
  all_goals (refine tup_end hret (by assumption) (by assumption) (by intro p hp; repeat' (first | exact hp | refine List.mem_cons_of_mem _ ?_)) ?_)
  all_goals (refine congrArg (fun z => 1 * z) ?_; first | exact expf1 (by omega) | exact expf2 q5 (by assumption) | exact expf3 q5 (by omega) (by assumption))
theorem c_expo_n (w : World) (mean : ExcName → Option Value) (mg mb : Str → Option Value) (news : Led) (tx : Str) (d3 : List Nat) (far : Int) (t t2 : Tok) (hT : tx.cps.toList = 45 :: d3) (hg : NumText.AllDigits d3) (hl1 : 1 ≤ d3.length) (hl2 : d3.length ≤ 7)
    (hz : 1 < d3.length → d3.head? ≠ some 48) (hf1 : 0 ≤ far) (hf2 : far ≤ 100000) :
    Cl w mean mg mb 3 121 news [.str tx t, .int far t2] (Tup ((-1) * expf far d3)) := by
  dsimp only [Cl, PK, PV, PL, PP]
  k_with_none
  w_top off
  k_fill
  intro dp un gd cn cs a ccd cl outer A₀ base h₀ L mm s Q E B F X N T hk hd hu hret
  have hT : tx.cps.toList = [45] ++ d3 := hT
  have hL : tx.length = 1 + d3.length := ex_len (pf := [45]) hT
  have q1 : ((Txt.slice tx none (some 1)).cps.toList == (Str.ofString "-").cps.toList) = true := by
    rw [ex_first (by rw [hT]; simp), hT, cp_minus]; rfl
  have q2 : ((Txt.item tx 0).cps.toList == (Str.ofString "-").cps.toList) = true := by
    rw [ex_item (pf := []) (d := 45 :: d3) (o := 0) hT rfl (by simp), cp_minus]; rfl
  have hde : (dend tx.cps.toList (Int.toNat 1) : Int) = tx.length := ex_dend (pf := [45]) hT rfl hg
  have q4 : NumText.AllDigits (Txt.slice tx (some 1) (some (1 + 6))).cps.toList := by rw [ex_slice (pf := [45]) (o := 1) hT rfl]; exact take_digits hg
  have q5 : NumText.digitsVal (Txt.slice tx (some 1) (some (1 + 6))).cps.toList = NumText.digitsVal (d3.take 6) := by rw [ex_slice (pf := [45]) (o := 1) hT rfl]
  have q3 : 1 < d3.length → ((Txt.item tx 1).cps.toList == (Str.ofString "0").cps.toList) = false := ex_zero (pf := [45]) hT rfl hz
  refine wpAny_call ?_
  (k_dflt (refine' code_def ?k1 ?k2 ?k3 ?k4 ?k5 ?kA ?kF ?kK ?k6 ?k7 ?k8 ?k9 ?kB ?_ ?c2 ?c3 ?c4 ?c5; (case kA => exact rfl); (case kF => exact rfl); (case kK => first | exact rfl | assumption); (case k1 => k_asm); (case k2 => k_asm); (case k3 => k_asm); (case k4 => k_asm); (case k5 => k_asm); (case k6 => k_is); (case k7 => k_is); (case k8 => first | omega | ktr_room); (case k9 => first | exact BindsTo.of_eq rfl | exact binds_K (by k_in) rfl (by k_is) rfl rfl rfl); (case c5 => decide); (case kB => exact locs rfl); (case c2 => exact rfl); (case c3 => exact rfl); (case c4 => exact rfl); k_whole; intro g' L' h' FG' F' N' B' X' T'; (try dsimp only); (try k_lift B'); (try k_fold)))
  (repeat' (first | (k_unfold; (try dsimp only)) | ((with_reducible show wpAny _ _ (PySem.call (Value.ref 100) _ _) _ _ _); k_dflt (refine' (c_dend _ _ _ _ _ _ _ _ _ _ ?q1 ?q2 ?q3 ?q4) _ _ _ _ _ _ _ _ _ _ _ _ _ _ _ _ _ ?k1 ?k2 ?k3 ?k4 ?k5 ?k6 ?k7 ?k8 ?_; (case k1 => k_asm); (case k2 => k_asm); (case k3 => k_asm); (case k4 => k_asm); (case k5 => k_asm); (case k6 => first | exact rfl | assumption); (case k7 => first | omega | ktr_room); (case k8 => first | omega | ktr_units); (case q1 => omega); (case q2 => omega); (case q3 => omega); (case q4 => assumption); rintro _ _ h' tk' F' N' ⟨rfl, t', rfl⟩; (try simp only [List.nil_append, List.cons_append] at N'); (try dsimp only); (try k_fold))) | ((with_reducible show wpAny _ _ (PySem.call (Value.ref 107) _ _) _ _ _); k_dflt (refine' (c_digits _ _ _ _ _ _ _ _ ?q1 ?q2) _ _ _ _ _ _ _ _ _ _ _ _ _ _ _ _ _ ?k1 ?k2 ?k3 ?k4 ?k5 ?k6 ?k7 ?k8 ?_; (case k1 => k_asm); (case k2 => k_asm); (case k3 => k_asm); (case k4 => k_asm); (case k5 => k_asm); (case k6 => first | exact rfl | assumption); (case k7 => first | omega | ktr_room); (case k8 => first | omega | ktr_units); (case q1 => assumption); (case q2 => rfl); rintro _ _ h' tk' F' N' ⟨rfl, t', rfl⟩; (try simp only [List.nil_append, List.cons_append] at N'); (try dsimp only); (try k_fold))) | ((with_reducible show wpAny _ _ (compareOp PySem.CmpOp.Eq (Value.str _ _) (Value.str _ _)) _ _ _); first | (refine eqs_t ?sh ?_; (case sh => first | assumption | exact q3 (by omega))) | (refine eqs_f ?sh ?_; (case sh => first | assumption | exact q3 (by omega)))) | (k_end; wrow_close) | ((fail_if_success (with_reducible show wpAny _ _ (PySem.exec (PySem.Stmt.While _ _ _ _) _) _ _ _)); first | walk1 | (dsimp only; walk1) | (leave1; try dsimp only)) | fail "no step"))
  all_goals try (exfalso; omega)
  k_while (fun _ k => k = 1) (fun _ _ => 0) "start"
  subst kInv
  (repeat' (first | (k_unfold; (try dsimp only)) | ((with_reducible show wpAny _ _ (PySem.call (Value.ref 107) _ _) _ _ _); k_dflt (refine' (c_digits _ _ _ _ _ _ _ _ ?q1 ?q2) _ _ _ _ _ _ _ _ _ _ _ _ _ _ _ _ _ ?k1 ?k2 ?k3 ?k4 ?k5 ?k6 ?k7 ?k8 ?_; (case k1 => k_asm); (case k2 => k_asm); (case k3 => k_asm); (case k4 => k_asm); (case k5 => k_asm); (case k6 => first | exact rfl | assumption); (case k7 => first | omega | ktr_room); (case k8 => first | omega | ktr_units); (case q1 => assumption); (case q2 => rfl); rintro _ _ h' tk' F' N' ⟨rfl, t', rfl⟩; (try simp only [List.nil_append, List.cons_append] at N'); (try dsimp only); (try k_fold))) | ((with_reducible show wpAny _ _ (compareOp PySem.CmpOp.Eq (Value.str _ _) (Value.str _ _)) _ _ _); first | (refine eqs_t ?sh ?_; (case sh => first | assumption | exact q3 (by omega))) | (refine eqs_f ?sh ?_; (case sh => first | assumption | exact q3 (by omega)))) | (k_end; wrow_close) | ((fail_if_success (with_reducible show wpAny _ _ (PySem.exec (PySem.Stmt.While _ _ _ _) _) _ _ _)); first | walk1 | (dsimp only; walk1) | (leave1; try dsimp only)) | fail "no step"))
  all_goals (refine tup_end hret (by assumption) (by assumption) (by intro p hp; repeat' (first | exact hp | refine List.mem_cons_of_mem _ ?_)) ?_)
  all_goals (refine congrArg (fun z => (-1) * z) ?_; first | exact expf1 (by omega) | exact expf2 q5 (by assumption) | exact expf3 q5 (by omega) (by assumption))
theorem c_expo (w : World) (mean : ExcName → Option Value) (mg mb : Str → Option Value) (news : Led) (tx : Str) (d3 : List Nat) (far P : Int) (t t2 : Tok) (hT : (tx.cps.toList = d3 ∧ 1 * expf far d3 = P) ∨ (tx.cps.toList = 45 :: d3 ∧ (-1) * expf far d3 = P)) (hg : NumText.AllDigits d3) (hl1 : 1 ≤ d3.length) (hl2 : d3.length ≤ 7)
    (hz : 1 < d3.length → d3.head? ≠ some 48) (hf1 : 0 ≤ far) (hf2 : far ≤ 100000) :
    Cl w mean mg mb 3 121 news [.str tx t, .int far t2] (Tup P) := by
  rcases hT with ⟨h1, h2⟩ | ⟨h1, h2⟩
  · subst h2; exact c_expo_p w mean mg mb news tx d3 far t t2 h1 hg hl1 hl2 hz hf1 hf2
  · subst h2; exact c_expo_n w mean mg mb news tx d3 far t t2 h1 hg hl1 hl2 hz hf1 hf2
theorem c_far (w : World) (mean : ExcName → Option Value) (mg mb : Str → Option Value) (news : Led) (x dx : Addr) (eb fb bias top hidden least : Int) (k1 k2 k3 k4 k5 k6 v1 v2 v3 v4 v5 v6 : Tok)
    (hb : FormB eb fb top hidden least) :
    Cl w mean mg mb 2 114 ((x, instObj 31 dx) :: (dx, formD w eb fb bias top hidden least k1 k2 k3 k4 k5 k6 v1 v2 v3 v4 v5 v6) :: news) [.ref x] (fun r tl => tl = [] ∧ ∃ t', r = .int (top + fb) t') := by
  dsimp only [Cl, PK, PV, PL, PP, formD]
  k_with_none
  w_top off
  k_fill
  intro dp un gd cn cs a ccd cl outer A₀ base h₀ L mm s Q E B F X N T hk hd hu hret
  obtain ⟨e1, e2, f1, f2, hh1, hh2, l1, l2, tt1, tt2⟩ := id hb
  refine wpAny_call ?_
  (k_dflt (refine' code_def ?k1 ?k2 ?k3 ?k4 ?k5 ?kA ?kF ?kK ?k6 ?k7 ?k8 ?k9 ?kB ?_ ?c2 ?c3 ?c4 ?c5; (case kA => exact rfl); (case kF => exact rfl); (case kK => first | exact rfl | assumption); (case k1 => k_asm); (case k2 => k_asm); (case k3 => k_asm); (case k4 => k_asm); (case k5 => k_asm); (case k6 => k_is); (case k7 => k_is); (case k8 => first | omega | ktr_room); (case k9 => first | exact BindsTo.of_eq rfl | exact binds_K (by k_in) rfl (by k_is) rfl rfl rfl); (case c5 => decide); (case kB => exact locs rfl); (case c2 => exact rfl); (case c3 => exact rfl); (case c4 => exact rfl); k_whole; intro g' L' h' FG' F' N' B' X' T'; (try dsimp only); (try k_lift B'); (try k_fold)))
  (repeat' (first | (k_unfold; (try dsimp only)) | (k_end; wrow_close) | ((fail_if_success (with_reducible show wpAny _ _ (PySem.exec (PySem.Stmt.While _ _ _ _) _) _ _ _)); first | walk1 | (dsimp only; walk1) | (leave1; try dsimp only)) | fail "no step"))
  all_goals (refine hret _ [] _ _ ?_ ?_ ⟨rfl, _, congrArg (fun z => Value.int z _) (if_pos (by omega))⟩)
  all_goals assumption
theorem c_dec (w : World) (mean : ExcName → Option Value) (mg mb : Str → Option Value) (news : Led) (x dx : Addr) (eb fb bias top hidden least : Int) (k1 k2 k3 k4 k5 k6 v1 v2 v3 v4 v5 v6 : Tok)
    (hb : FormB eb fb top hidden least) (tx : Str) (d1 d2 d3 : List Nat) (V : Nat) (P sign : Int) (t t2 : Tok) (hs1 : 0 ≤ sign) (hs2 : sign ≤ 1) (hD : Dec tx d1 d2 d3 V (top + fb) P) (hP1 : -10000 ≤ P) (hP2 : P ≤ 10000 ∨ top + fb < P) :
    Cl w mean mg mb 125 128 ((x, instObj 31 dx) :: (dx, formD w eb fb bias top hidden least k1 k2 k3 k4 k5 k6 v1 v2 v3 v4 v5 v6) :: news) [.ref x, .int sign t2, .str tx t] (Tup (decO eb fb top hidden least sign V P d2.length)) := by
  dsimp only [Cl, PK, PV, PL, PP, formD]
  k_with_none
  w_top off
  k_fill
  intro dp un gd cn cs a ccd cl outer A₀ base h₀ L mm s Q E B F X N T hk hd hu hret
  obtain ⟨a1, a2, a3, a4, z1, z2, z3, zt, ze, dn0, dn1, dot, dg, dv, vp, vs, ee, ex⟩ := hD
  obtain ⟨e1, e2, f1, f2, hh1, hh2, l1, l2, tt1, tt2⟩ := id hb
  have vp' : 0 < (V : Int) := by omega
  have vs' : (V : Int) < 2 ^ 64 := by omega
  refine wpAny_call ?_
  (k_dflt (refine' code_def ?k1 ?k2 ?k3 ?k4 ?k5 ?kA ?kF ?kK ?k6 ?k7 ?k8 ?k9 ?kB ?_ ?c2 ?c3 ?c4 ?c5; (case kA => exact rfl); (case kF => exact rfl); (case kK => first | exact rfl | assumption); (case k1 => k_asm); (case k2 => k_asm); (case k3 => k_asm); (case k4 => k_asm); (case k5 => k_asm); (case k6 => k_is); (case k7 => k_is); (case k8 => first | omega | ktr_room); (case k9 => first | exact BindsTo.of_eq rfl | exact binds_K (by k_in) rfl (by k_is) rfl rfl rfl); (case c5 => decide); (case kB => exact locs rfl); (case c2 => exact rfl); (case c3 => exact rfl); (case c4 => exact rfl); k_whole; intro g' L' h' FG' F' N' B' X' T'; (try dsimp only); (try k_lift B'); (try k_fold)))
  (repeat' (first | (k_unfold; (try dsimp only)) | ((with_reducible show wpAny _ _ (PySem.call (Value.ref 100) _ _) _ _ _); k_dflt (refine' (c_dend _ _ _ _ _ _ _ _ _ _ ?q1 ?q2 ?q3 ?q4) _ _ _ _ _ _ _ _ _ _ _ _ _ _ _ _ _ ?k1 ?k2 ?k3 ?k4 ?k5 ?k6 ?k7 ?k8 ?_; (case k1 => k_asm); (case k2 => k_asm); (case k3 => k_asm); (case k4 => k_asm); (case k5 => k_asm); (case k6 => first | exact rfl | assumption); (case k7 => first | omega | ktr_room); (case k8 => first | omega | ktr_units); (case q1 => omega); (case q2 => omega); (case q3 => omega); (case q4 => assumption); rintro _ _ h' tk' F' N' ⟨rfl, t', rfl⟩; (try simp only [List.nil_append, List.cons_append] at N'); (try dsimp only); (try k_fold))) | ((with_reducible show wpAny _ _ (PySem.call (Value.ref 107) _ _) _ _ _); k_dflt (refine' (c_digits _ _ _ _ _ _ _ _ ?q1 ?q2) _ _ _ _ _ _ _ _ _ _ _ _ _ _ _ _ _ ?k1 ?k2 ?k3 ?k4 ?k5 ?k6 ?k7 ?k8 ?_; (case k1 => k_asm); (case k2 => k_asm); (case k3 => k_asm); (case k4 => k_asm); (case k5 => k_asm); (case k6 => first | exact rfl | assumption); (case k7 => first | omega | ktr_room); (case k8 => first | omega | ktr_units); (case q1 => assumption); (case q2 => assumption); rintro _ _ h' tk' F' N' ⟨rfl, t', rfl⟩; (try simp only [List.nil_append, List.cons_append] at N'); (try dsimp only); (try k_fold))) | ((with_reducible show wpAny _ _ (PySem.call (Value.ref 114) _ _) _ _ _); k_dflt (refine' (c_far _ _ _ _ _ _ _ _ _ _ _ _ _ _ _ _ _ _ _ _ _ _ _ _ _ hb) _ _ _ _ _ _ _ _ _ _ _ _ _ _ _ _ _ ?k1 ?k2 ?k3 ?k4 ?k5 ?k6 ?k7 ?k8 ?_; (case k1 => k_asm); (case k2 => k_asm); (case k3 => k_asm); (case k4 => first | k_asm | exact led_front (by k_asm) (by k_mem) (by k_mem)); (case k5 => k_asm); (case k6 => first | exact rfl | assumption); (case k7 => first | omega | ktr_room); (case k8 => first | omega | ktr_units); rintro _ _ h' tk' F' N' ⟨rfl, t', rfl⟩; (try simp only [List.nil_append, List.cons_append] at N'); (try dsimp only); (try k_fold))) | ((with_reducible show wpAny _ _ (PySem.call (Value.ref 121) _ _) _ _ _); k_dflt (refine' (c_expo _ _ _ _ _ _ d3 _ P _ _ ?q1 ?q2 ?q3 ?q4 ?q5 ?q6 ?q7) _ _ _ _ _ _ _ _ _ _ _ _ _ _ _ _ _ ?k1 ?k2 ?k3 ?k4 ?k5 ?k6 ?k7 ?k8 ?_; (case k1 => k_asm); (case k2 => k_asm); (case k3 => k_asm); (case k4 => k_asm); (case k5 => k_asm); (case k6 => first | exact rfl | assumption); (case k7 => first | omega | ktr_room); (case k8 => first | omega | ktr_units); (case q1 => exact ex); (case q2 => assumption); (case q3 => assumption); (case q4 => assumption); (case q5 => assumption); (case q6 => omega); (case q7 => omega); rintro _ _ h' tk' F' N' ⟨q, t', rfl, rfl⟩; (try simp only [List.nil_append, List.cons_append] at N'); (try dsimp only); (try k_fold))) | ((with_reducible show wpAny _ _ (PySem.call (Value.ref 93) _ _) _ _ _); k_dflt (refine' (c_ratio _ _ _ _ _ _ _ _ _ _ _ _ _ _ _ _ _ _ _ _ _ _ _ _ _ hb _ _ _ 0 _ _ _ ?q1 ?q2 ?q3 ?q4) _ _ _ _ _ _ _ _ _ _ _ _ _ _ _ _ _ ?k1 ?k2 ?k3 ?k4 ?k5 ?k6 ?k7 ?k8 ?_; (case k1 => k_asm); (case k2 => k_asm); (case k3 => k_asm); (case k4 => first | k_asm | exact led_front (by k_asm) (by k_mem) (by k_mem)); (case k5 => k_asm); (case k6 => first | exact rfl | assumption); (case k7 => first | omega | ktr_room); (case k8 => first | omega | ktr_units); (case q1 => omega); (case q2 => omega); (case q3 => (first | exact bs_dp vp' vs' (by omega) | exact bs_small vp' vs')); (case q4 => (first | exact bs_one | exact bs_p10 (by omega))); rintro _ _ h' tk' F' N' ⟨rfl, t', rfl⟩; (try simp only [List.nil_append, List.cons_append] at N'); (try dsimp only); (try k_fold))) | ((with_reducible show wpAny _ _ (PySem.call (Value.ref 49) _ _) _ _ _); k_dflt (refine' (c_inf _ _ _ _ _ _ _ _ _ _ _ _ _ _ _ _ _ _ _ _ _ _ _ _ _ hb _ _ ?q1 ?q2) _ _ _ _ _ _ _ _ _ _ _ _ _ _ _ _ _ ?k1 ?k2 ?k3 ?k4 ?k5 ?k6 ?k7 ?k8 ?_; (case k1 => k_asm); (case k2 => k_asm); (case k3 => k_asm); (case k4 => first | k_asm | exact led_front (by k_asm) (by k_mem) (by k_mem)); (case k5 => k_asm); (case k6 => first | exact rfl | assumption); (case k7 => first | omega | ktr_room); (case k8 => first | omega | ktr_units); (case q1 => omega); (case q2 => omega); rintro _ _ h' tk' F' N' ⟨rfl, t', rfl⟩; (try simp only [List.nil_append, List.cons_append] at N'); (try dsimp only); (try k_fold))) | ((with_reducible show wpAny _ _ (compareOp PySem.CmpOp.Eq (Value.str _ _) (Value.str _ _)) _ _ _); first | (refine eqs_t ?sh ?_; (case sh => first | assumption)) | (refine eqs_f ?sh ?_; (case sh => first | assumption))) | ((with_reducible show wpAny _ _ (compareOp PySem.CmpOp.NotEq (Value.str _ _) (Value.str _ _)) _ _ _); first | (refine noteqs_t ?sh ?_; (case sh => first | assumption)) | (refine noteqs_f ?sh ?_; (case sh => first | assumption))) | (k_end; wrow_close) | ((fail_if_success (with_reducible show wpAny _ _ (PySem.exec (PySem.Stmt.While _ _ _ _) _) _ _ _)); first | walk1 | (dsimp only; walk1) | (leave1; try dsimp only)) | fail "no step"))
  all_goals try (exfalso; omega)
  all_goals have hpe : P - ((d1.length : Int) + 1 + d2.length - d1.length - 1) = P - d2.length := by omega
  all_goals (refine tup_end hret (by assumption) (by assumption) (by intro p hp; repeat' (first | exact hp | refine List.mem_cons_of_mem _ ?_)) ?_)
  all_goals first | (rw [decO1 (by omega)]; done) | (rw [decO2 (by omega), hpe]; unfold decV; split <;> first | (exfalso; omega) | rfl)
theorem c_real_p (w : World) (mean : ExcName → Option Value) (mg mb : Str → Option Value) (news : Led) (x dx : Addr) (eb fb bias top hidden least : Int) (k1 k2 k3 k4 k5 k6 v1 v2 v3 v4 v5 v6 : Tok)
    (hb : FormB eb fb top hidden least) (tx : Str) (d1 d2 d3 : List Nat) (V : Nat) (P : Int) (t : Tok) (hlt : tx.length ≤ 1000) (hD : Dec tx d1 d2 d3 V (top + fb) P) (n1 : (tx.cps.toList == (Str.ofString "NAN").cps.toList) = false) (n2 : ((Txt.slice tx none (some 1)).cps.toList == (Str.ofString "-").cps.toList) = false) (n3 : (tx.cps.toList == (Str.ofString "INF").cps.toList) = false) (hP1 : -10000 ≤ P) (hP2 : P ≤ 10000 ∨ top + fb < P) :
    Cl w mean mg mb 130 135 ((x, instObj 31 dx) :: (dx, formD w eb fb bias top hidden least k1 k2 k3 k4 k5 k6 v1 v2 v3 v4 v5 v6) :: news) [.ref x, .str tx t] (Tup (decO eb fb top hidden least 0 V P d2.length)) := by
  dsimp only [Cl, PK, PV, PL, PP, formD]
  k_with_none
  w_top off
  k_fill
  intro dp un gd cn cs a ccd cl outer A₀ base h₀ L mm s Q E B F X N T hk hd hu hret
  refine wpAny_call ?_
  (k_dflt (refine' code_def ?k1 ?k2 ?k3 ?k4 ?k5 ?kA ?kF ?kK ?k6 ?k7 ?k8 ?k9 ?kB ?_ ?c2 ?c3 ?c4 ?c5; (case kA => exact rfl); (case kF => exact rfl); (case kK => first | exact rfl | assumption); (case k1 => k_asm); (case k2 => k_asm); (case k3 => k_asm); (case k4 => k_asm); (case k5 => k_asm); (case k6 => k_is); (case k7 => k_is); (case k8 => first | omega | ktr_room); (case k9 => first | exact BindsTo.of_eq rfl | exact binds_K (by k_in) rfl (by k_is) rfl rfl rfl); (case c5 => decide); (case kB => exact locs rfl); (case c2 => exact rfl); (case c3 => exact rfl); (case c4 => exact rfl); k_whole; intro g' L' h' FG' F' N' B' X' T'; (try dsimp only); (try k_lift B'); (try k_fold)))
  (repeat' (first | (k_unfold; (try dsimp only)) | ((with_reducible show wpAny _ _ (PySem.call (Value.ref 128) _ _) _ _ _); k_dflt (refine' (c_dec _ _ _ _ _ _ _ _ _ _ _ _ _ _ _ _ _ _ _ _ _ _ _ _ _ hb _ d1 d2 d3 V P _ _ _ ?q1 ?q2 ?q3 ?q4 ?q5) _ _ _ _ _ _ _ _ _ _ _ _ _ _ _ _ _ ?k1 ?k2 ?k3 ?k4 ?k5 ?k6 ?k7 ?k8 ?_; (case k1 => k_asm); (case k2 => k_asm); (case k3 => k_asm); (case k4 => first | k_asm | exact led_front (by k_asm) (by k_mem) (by k_mem)); (case k5 => k_asm); (case k6 => first | exact rfl | assumption); (case k7 => first | omega | ktr_room); (case k8 => first | omega | ktr_units); (case q1 => omega); (case q2 => omega); (case q3 => assumption); (case q4 => omega); (case q5 => omega); rintro _ _ h' tk' F' N' ⟨q, t', rfl, rfl⟩; (try simp only [List.nil_append, List.cons_append] at N'); (try dsimp only); (try k_fold))) | ((with_reducible show wpAny _ _ (compareOp PySem.CmpOp.Eq (Value.str _ _) (Value.str _ _)) _ _ _); first | (refine eqs_t ?sh ?_; (case sh => first | assumption)) | (refine eqs_f ?sh ?_; (case sh => first | assumption))) | ((with_reducible show wpAny _ _ (compareOp PySem.CmpOp.NotEq (Value.str _ _) (Value.str _ _)) _ _ _); first | (refine noteqs_t ?sh ?_; (case sh => first | assumption)) | (refine noteqs_f ?sh ?_; (case sh => first | assumption))) | (k_end; wrow_close) | ((fail_if_success (with_reducible show wpAny _ _ (PySem.exec (PySem.Stmt.While _ _ _ _) _) _ _ _)); first | walk1 | (dsimp only; walk1) | (leave1; try dsimp only)) | fail "no step"))
  all_goals (refine tup_end hret (by assumption) (by assumption) (by intro p hp; repeat' (first | exact hp | refine List.mem_cons_of_mem _ ?_)) rfl)
theorem c_real_n (w : World) (mean : ExcName → Option Value) (mg mb : Str → Option Value) (news : Led) (x dx : Addr) (eb fb bias top hidden least : Int) (k1 k2 k3 k4 k5 k6 v1 v2 v3 v4 v5 v6 : Tok)
    (hb : FormB eb fb top hidden least) (tx : Str) (d1 d2 d3 : List Nat) (V : Nat) (P : Int) (t : Tok) (hlt : tx.length ≤ 1000) (hD : Dec (Txt.slice tx (some 1) none) d1 d2 d3 V (top + fb) P) (n1 : (tx.cps.toList == (Str.ofString "NAN").cps.toList) = false) (n2 : ((Txt.slice tx none (some 1)).cps.toList == (Str.ofString "-").cps.toList) = true) (n3 : ((Txt.slice tx (some 1) none).cps.toList == (Str.ofString "INF").cps.toList) = false) (hP1 : -10000 ≤ P) (hP2 : P ≤ 10000 ∨ top + fb < P) :
    Cl w mean mg mb 130 135 ((x, instObj 31 dx) :: (dx, formD w eb fb bias top hidden least k1 k2 k3 k4 k5 k6 v1 v2 v3 v4 v5 v6) :: news) [.ref x, .str tx t] (Tup (decO eb fb top hidden least 1 V P d2.length)) := by
  dsimp only [Cl, PK, PV, PL, PP, formD]
  k_with_none
  w_top off
  k_fill
  intro dp un gd cn cs a ccd cl outer A₀ base h₀ L mm s Q E B F X N T hk hd hu hret
  refine wpAny_call ?_
  (k_dflt (refine' code_def ?k1 ?k2 ?k3 ?k4 ?k5 ?kA ?kF ?kK ?k6 ?k7 ?k8 ?k9 ?kB ?_ ?c2 ?c3 ?c4 ?c5; (case kA => exact rfl); (case kF => exact rfl); (case kK => first | exact rfl | assumption); (case k1 => k_asm); (case k2 => k_asm); (case k3 => k_asm); (case k4 => k_asm); (case k5 => k_asm); (case k6 => k_is); (case k7 => k_is); (case k8 => first | omega | ktr_room); (case k9 => first | exact BindsTo.of_eq rfl | exact binds_K (by k_in) rfl (by k_is) rfl rfl rfl); (case c5 => decide); (case kB => exact locs rfl); (case c2 => exact rfl); (case c3 => exact rfl); (case c4 => exact rfl); k_whole; intro g' L' h' FG' F' N' B' X' T'; (try dsimp only); (try k_lift B'); (try k_fold)))
  (repeat' (first | (k_unfold; (try dsimp only)) | ((with_reducible show wpAny _ _ (PySem.call (Value.ref 128) _ _) _ _ _); k_dflt (refine' (c_dec _ _ _ _ _ _ _ _ _ _ _ _ _ _ _ _ _ _ _ _ _ _ _ _ _ hb _ d1 d2 d3 V P _ _ _ ?q1 ?q2 ?q3 ?q4 ?q5) _ _ _ _ _ _ _ _ _ _ _ _ _ _ _ _ _ ?k1 ?k2 ?k3 ?k4 ?k5 ?k6 ?k7 ?k8 ?_; (case k1 => k_asm); (case k2 => k_asm); (case k3 => k_asm); (case k4 => first | k_asm | exact led_front (by k_asm) (by k_mem) (by k_mem)); (case k5 => k_asm); (case k6 => first | exact rfl | assumption); (case k7 => first | omega | ktr_room); (case k8 => first | omega | ktr_units); (case q1 => omega); (case q2 => omega); (case q3 => assumption); (case q4 => omega); (case q5 => omega); rintro _ _ h' tk' F' N' ⟨q, t', rfl, rfl⟩; (try simp only [List.nil_append, List.cons_append] at N'); (try dsimp only); (try k_fold))) | ((with_reducible show wpAny _ _ (compareOp PySem.CmpOp.Eq (Value.str _ _) (Value.str _ _)) _ _ _); first | (refine eqs_t ?sh ?_; (case sh => first | assumption)) | (refine eqs_f ?sh ?_; (case sh => first | assumption))) | ((with_reducible show wpAny _ _ (compareOp PySem.CmpOp.NotEq (Value.str _ _) (Value.str _ _)) _ _ _); first | (refine noteqs_t ?sh ?_; (case sh => first | assumption)) | (refine noteqs_f ?sh ?_; (case sh => first | assumption))) | (k_end; wrow_close) | ((fail_if_success (with_reducible show wpAny _ _ (PySem.exec (PySem.Stmt.While _ _ _ _) _) _ _ _)); first | walk1 | (dsimp only; walk1) | (leave1; try dsimp only)) | fail "no step"))
  all_goals (refine tup_end hret (by assumption) (by assumption) (by intro p hp; repeat' (first | exact hp | refine List.mem_cons_of_mem _ ?_)) rfl)
theorem c_read (w : World) (mean : ExcName → Option Value) (mg mb : Str → Option Value) (news : Led) (x dx : Addr) (eb fb : Int) (k1 k2 k3 k4 k5 k6 v1 v2 v3 v4 v5 v6 : Tok) (e1 : 14 ≤ eb) (e2 : eb ≤ 16) (f1 : 3 ≤ fb) (f2 : fb ≤ 9) (sd dn : Str) (f g v : Int) (t : Tok) (b1 : 1 ≤ f) (b2 : f ≤ 9) (b3 : 0 ≤ g) (b4 : g ≤ 999) (b5 : 0 ≤ v) (b6 : v ≤ 9900) (OUT : Int) (hr : Rd eb fb f g v sd dn OUT) :
    Cl w mean mg mb 130 135 ((x, instObj 31 dx) :: (dx, formD w eb fb (1 * 2 ^ (eb - 1).toNat - 1) (1 * 2 ^ eb.toNat - 1) (1 * 2 ^ fb.toNat) (1 - (1 * 2 ^ (eb - 1).toNat - 1) - fb) k1 k2 k3 k4 k5 k6 v1 v2 v3 v4 v5 v6) :: news) [.ref x, .str (txt sd dn f g v) t] (Tup OUT) := by
  have hb := form_b e1 e2 f1 f2
  have hV1 := vv_pos b1 b2 b3 b4
  have hV2 := vv_lt b1 b2 b3 b4
  have t1 := hb.t1
  have hx := expf_small (far := 1 * 2 ^ eb.toNat - 1 + fb) b5 b6 (by omega)
  have sl := sl_bd b3 b4
  have dl : ((dgs g).length : Int) = sln g := congrArg _ dgs_len
  have af := dgs_all (n := f) (by omega)
  have ag := dgs_all b3
  have av := dgs_all b5
  have pf := dgs_pos (n := f) (by omega)
  have pv := dgs_pos b5
  have lf := dgs_le (n := f) (by omega) (k := 1) (by decide) (by omega)
  have lg := dgs_le b3 (k := 3) (by decide) (by omega)
  have lv := dgs_le b5 (k := 4) (by decide) (by omega)
  obtain ⟨c, r, hc, hc1, hc2⟩ : ∃ c r, dgs f = c :: r ∧ 48 ≤ c ∧ c ≤ 57 := by
    have h1 := af
    have h2 := pf
    generalize dgs f = d at h1 h2 ⊢
    match d, h2, h1 with
    | c :: r, _, h1 => exact ⟨c, r, rfl, h1.head.1, h1.head.2⟩
  cases hr with
  | pu =>
    have hT : (txt (Str.ofString "") (Str.ofString "") f g v).cps.toList = dgs f ++ 46 :: (dgs g ++ 69 :: ([] ++ dgs v)) := by rw [txt_cps, cp_nil]; rfl
    have hlt : (txt (Str.ofString "") (Str.ofString "") f g v).length ≤ 1000 := by
      rw [← strlen, hT]; simp only [List.length_append, List.length_cons, List.length_nil]; omega
    have hD : Dec (txt (Str.ofString "") (Str.ofString "") f g v) (dgs f) (dgs g) (dgs v) (vvN f g) (1 * 2 ^ eb.toNat - 1 + fb) v :=
      dec_of (dn := []) hT af ag av pf (by omega) (by omega) pv (by omega) (dgs_head b5) (by simp) rfl (by omega) (by omega) (Or.inl ⟨rfl, by rw [hx, Int.one_mul]⟩)
    have hT' : (txt (Str.ofString "") (Str.ofString "") f g v).cps.toList = c :: (r ++ 46 :: (dgs g ++ 69 :: ([] ++ dgs v))) := by rw [hT, hc]; rfl
    have q := c_real_p w mean mg mb news x dx eb fb (1 * 2 ^ (eb - 1).toNat - 1) (1 * 2 ^ eb.toNat - 1) (1 * 2 ^ fb.toNat) (1 - (1 * 2 ^ (eb - 1).toNat - 1) - fb) k1 k2 k3 k4 k5 k6 v1 v2 v3 v4 v5 v6 hb _ _ _ _ _ _ t hlt hD (head_ne hT' cp_nan (by omega)) (first_ne hT' (by omega)) (head_ne hT' cp_inf (by omega)) (by omega) (Or.inl (by omega))
    rw [decO2 (by omega), dl, out_up 0 e1 e2 f1 f2 hV1 hV2 b5 b6 sl.1 sl.2, sign0] at q
    exact q
  | pd =>
    have hT : (txt (Str.ofString "") (Str.ofString "-") f g v).cps.toList = dgs f ++ 46 :: (dgs g ++ 69 :: ([45] ++ dgs v)) := by rw [txt_cps, cp_minus, cp_nil]; rfl
    have hlt : (txt (Str.ofString "") (Str.ofString "-") f g v).length ≤ 1000 := by
      rw [← strlen, hT]; simp only [List.length_append, List.length_cons, List.length_nil]; omega
    have hD : Dec (txt (Str.ofString "") (Str.ofString "-") f g v) (dgs f) (dgs g) (dgs v) (vvN f g) (1 * 2 ^ eb.toNat - 1 + fb) ((-1) * v) :=
      dec_of (dn := [45]) hT af ag av pf (by omega) (by omega) pv (by omega) (dgs_head b5) (by simp) rfl (by omega) (by omega) (Or.inr ⟨rfl, by rw [hx]⟩)
    have hT' : (txt (Str.ofString "") (Str.ofString "-") f g v).cps.toList = c :: (r ++ 46 :: (dgs g ++ 69 :: ([45] ++ dgs v))) := by rw [hT, hc]; rfl
    have q := c_real_p w mean mg mb news x dx eb fb (1 * 2 ^ (eb - 1).toNat - 1) (1 * 2 ^ eb.toNat - 1) (1 * 2 ^ fb.toNat) (1 - (1 * 2 ^ (eb - 1).toNat - 1) - fb) k1 k2 k3 k4 k5 k6 v1 v2 v3 v4 v5 v6 hb _ _ _ _ _ _ t hlt hD (head_ne hT' cp_nan (by omega)) (first_ne hT' (by omega)) (head_ne hT' cp_inf (by omega)) (by omega) (Or.inl (by omega))
    rw [decO2 (by omega), dl, out_dn 0 e1 e2 f1 f2 hV1 hV2 b5 b6 sl.1 sl.2, sign0] at q
    exact q
  | nu =>
    have hT : (txt (Str.ofString "-") (Str.ofString "") f g v).cps.toList = 45 :: (dgs f ++ 46 :: (dgs g ++ 69 :: ([] ++ dgs v))) := by rw [txt_cps, cp_minus, cp_nil]; rfl
    have hlt : (txt (Str.ofString "-") (Str.ofString "") f g v).length ≤ 1000 := by
      rw [← strlen, hT]; simp only [List.length_append, List.length_cons, List.length_nil]; omega
    have hD : Dec (Txt.slice (txt (Str.ofString "-") (Str.ofString "") f g v) (some 1) none) (dgs f) (dgs g) (dgs v) (vvN f g) (1 * 2 ^ eb.toNat - 1 + fb) v :=
      dec_of (dn := []) (tail_cps hT) af ag av pf (by omega) (by omega) pv (by omega) (dgs_head b5) (by simp) rfl (by omega) (by omega) (Or.inl ⟨rfl, by rw [hx, Int.one_mul]⟩)
    have q := c_real_n w mean mg mb news x dx eb fb (1 * 2 ^ (eb - 1).toNat - 1) (1 * 2 ^ eb.toNat - 1) (1 * 2 ^ fb.toNat) (1 - (1 * 2 ^ (eb - 1).toNat - 1) - fb) k1 k2 k3 k4 k5 k6 v1 v2 v3 v4 v5 v6 hb _ _ _ _ _ _ t hlt hD (head_ne hT cp_nan (by decide)) (first_eq hT) (head_ne (r := r ++ 46 :: (dgs g ++ 69 :: ([] ++ dgs v))) (by rw [tail_cps hT, hc]; rfl) cp_inf (by omega)) (by omega) (Or.inl (by omega))
    rw [decO2 (by omega), dl, out_up 1 e1 e2 f1 f2 hV1 hV2 b5 b6 sl.1 sl.2, sign1 e1 f1] at q
    exact q
  | nd =>
    have hT : (txt (Str.ofString "-") (Str.ofString "-") f g v).cps.toList = 45 :: (dgs f ++ 46 :: (dgs g ++ 69 :: ([45] ++ dgs v))) := by rw [txt_cps, cp_minus]; rfl
    have hlt : (txt (Str.ofString "-") (Str.ofString "-") f g v).length ≤ 1000 := by
      rw [← strlen, hT]; simp only [List.length_append, List.length_cons, List.length_nil]; omega
    have hD : Dec (Txt.slice (txt (Str.ofString "-") (Str.ofString "-") f g v) (some 1) none) (dgs f) (dgs g) (dgs v) (vvN f g) (1 * 2 ^ eb.toNat - 1 + fb) ((-1) * v) :=
      dec_of (dn := [45]) (tail_cps hT) af ag av pf (by omega) (by omega) pv (by omega) (dgs_head b5) (by simp) rfl (by omega) (by omega) (Or.inr ⟨rfl, by rw [hx]⟩)
    have q := c_real_n w mean mg mb news x dx eb fb (1 * 2 ^ (eb - 1).toNat - 1) (1 * 2 ^ eb.toNat - 1) (1 * 2 ^ fb.toNat) (1 - (1 * 2 ^ (eb - 1).toNat - 1) - fb) k1 k2 k3 k4 k5 k6 v1 v2 v3 v4 v5 v6 hb _ _ _ _ _ _ t hlt hD (head_ne hT cp_nan (by decide)) (first_eq hT) (head_ne (r := r ++ 46 :: (dgs g ++ 69 :: ([45] ++ dgs v))) (by rw [tail_cps hT, hc]; rfl) cp_inf (by omega)) (by omega) (Or.inl (by omega))
    rw [decO2 (by omega), dl, out_dn 1 e1 e2 f1 f2 hV1 hV2 b5 b6 sl.1 sl.2, sign1 e1 f1] at q
    exact q
theorem c_read_last (w : World) (mean : ExcName → Option Value) (mg mb : Str → Option Value) (news : Led) (x dx : Addr) (eb fb : Int) (k1 k2 k3 k4 k5 k6 v1 v2 v3 v4 v5 v6 : Tok) (e1 : 14 ≤ eb) (e2 : eb ≤ 16) (f1 : 3 ≤ fb) (f2 : fb ≤ 9) (tx : Str) (t : Tok) (hT : tx.cps.toList = [49, 46, 48, 69, 57, 57, 57, 57, 57, 57, 57]) :
    Cl w mean mg mb 130 135 ((x, instObj 31 dx) :: (dx, formD w eb fb (1 * 2 ^ (eb - 1).toNat - 1) (1 * 2 ^ eb.toNat - 1) (1 * 2 ^ fb.toNat) (1 - (1 * 2 ^ (eb - 1).toNat - 1) - fb) k1 k2 k3 k4 k5 k6 v1 v2 v3 v4 v5 v6) :: news) [.ref x, .str tx t] (Tup ((2 ^ eb.toNat - 1) * 2 ^ fb.toNat)) := by
  have hb := form_b e1 e2 f1 f2
  have t1 := hb.t1
  have hlt : tx.length ≤ 1000 := by rw [← strlen, hT]; decide
  have ad : ∀ d : List Nat, d.all isDg = true → NumText.AllDigits d := fun d h c hc => (isDg_iff c).mp (List.all_eq_true.mp h c hc)
  have hx : expf (1 * 2 ^ eb.toNat - 1 + fb) [57, 57, 57, 57, 57, 57, 57] = 1 * 2 ^ eb.toNat - 1 + fb + 1 := (expf1 (by decide)).symm
  have hD : Dec tx [49] [48] [57, 57, 57, 57, 57, 57, 57] 10 (1 * 2 ^ eb.toNat - 1 + fb) (1 * 2 ^ eb.toNat - 1 + fb + 1) :=
    dec_of (dn := []) hT (ad _ (by decide)) (ad _ (by decide)) (ad _ (by decide)) (by decide) (by decide) (by decide) (by decide) (by decide) (fun _ => by decide) (by decide) (by decide) (by decide) (by decide) (Or.inl ⟨rfl, by rw [hx, Int.one_mul]⟩)
  have q := c_real_p w mean mg mb news x dx eb fb (1 * 2 ^ (eb - 1).toNat - 1) (1 * 2 ^ eb.toNat - 1) (1 * 2 ^ fb.toNat) (1 - (1 * 2 ^ (eb - 1).toNat - 1) - fb) k1 k2 k3 k4 k5 k6 v1 v2 v3 v4 v5 v6 hb _ _ _ _ _ _ t hlt hD (head_ne hT cp_nan (by decide)) (first_ne hT (by decide)) (head_ne hT cp_inf (by decide)) (by omega) (Or.inr (by omega))
  rw [decO1 (by omega)] at q
  have e : (0 * 2 ^ eb.toNat + (1 * 2 ^ eb.toNat - 1)) * (1 * 2 ^ fb.toNat) + 0 = ((2 : Int) ^ eb.toNat - 1) * 2 ^ fb.toNat := by
    rw [Int.zero_mul, Int.zero_add, Int.add_zero, Int.one_mul, Int.one_mul]
  rw [e] at q
  exact q
abbrev ClT (w : World) (mean : ExcName → Option Value) (mg mb : Str → Option Value) (d : Nat) (f : Addr) (news : Led) (l : Addr) (vs : List Value) (ns : List Int) (Out : Value → Led → Prop) : Prop :=
  ∀ (dp un : Nat) (gd : Option (List Code)) (cn : Str) (cs : Scope) (a : Addr) (ccd : Value) (cl : List (Str × Addr)) (outer : List Env) (A₀ : Around) (base h₀ : Heap) (L : Addr) (m : Str → Option Value) (s : Shared) (Q E : Value → Shared → Prop),
    Below A₀ base outer h₀ → Fr h₀ L s.heap m → Frag.In (PK w) h₀ → News h₀ L s.heap news → Top PV PL mean mg mb h₀ → cs.kind = .function →
    dp + d < recursionLimit → un + 8 * d < cLine → base.IsList l vs.toArray → IntsAre vs ns → ns.length < 2 ^ 20 →
    (∀ (r : Value) (tl : Led) (h' : Heap) (tk' : Nat), Fr h₀ L h' m → News h₀ L h' (tl ++ news) → Out r tl → Q r { s with heap := h', toks := tk' }) →
      wpAny (model PP w) (ktrTop dp un gd cn cs L a ccd cl outer) (call (.ref f) [.ref l]) Q E s
theorem ints_split : ∀ {vs : List Value} {n : Int} {ns : List Int}, IntsAre vs (n :: ns) → ∃ t vr, vs = .int n t :: vr ∧ IntsAre vr ns := by
  intro vs n ns h
  cases h
  exact ⟨_, _, rfl, by assumption⟩
theorem ints_nil {vs : List Value} (h : IntsAre vs []) : vs = [] := by cases h; rfl
theorem nine {vs : List Value} {ns : List Int} (h : IntsAre vs ns) (hl : ns.length = 9) : ∃ a0 a1 a2 a3 a4 a5 a6 a7 a8 t0 t1 t2 t3 t4 t5 t6 t7 t8, vs = [.int a0 t0, .int a1 t1, .int a2 t2, .int a3 t3, .int a4 t4, .int a5 t5, .int a6 t6, .int a7 t7, .int a8 t8] := by
  match ns, hl with
  | [a0, a1, a2, a3, a4, a5, a6, a7, a8], _ =>
    obtain ⟨t0, _, rfl, g0⟩ := ints_split h
    obtain ⟨t1, _, rfl, g1⟩ := ints_split g0
    obtain ⟨t2, _, rfl, g2⟩ := ints_split g1
    obtain ⟨t3, _, rfl, g3⟩ := ints_split g2
    obtain ⟨t4, _, rfl, g4⟩ := ints_split g3
    obtain ⟨t5, _, rfl, g5⟩ := ints_split g4
    obtain ⟨t6, _, rfl, g6⟩ := ints_split g5
    obtain ⟨t7, _, rfl, g7⟩ := ints_split g6
    obtain ⟨t8, _, rfl, g8⟩ := ints_split g7
    cases ints_nil g8
    exact ⟨a0, a1, a2, a3, a4, a5, a6, a7, a8, t0, t1, t2, t3, t4, t5, t6, t7, t8, rfl⟩
abbrev NineL (r : Value) (tl : Led) : Prop := ∃ x a0 a1 a2 a3 a4 a5 a6 a7 a8 t0 t1 t2 t3 t4 t5 t6 t7 t8 n, r = .ref x ∧
      tl = [(x, listOf #[.int a0 t0, .int a1 t1, .int a2 t2, .int a3 t3, .int a4 t4, .int a5 t5, .int a6 t6, .int a7 t7, .int a8 t8] n)]
theorem ticks_end {h₀ h : Heap} {L : Addr} {m : Str → Option Value} {news l : Led} {q : Addr} {vs : List Value} {ns : List Int} {n : Nat} {s : Shared} {tk : Nat} {Q : Value → Shared → Prop}
    (hret : ∀ (r : Value) (tl : Led) (h' : Heap) (tk' : Nat), Fr h₀ L h' m → News h₀ L h' (tl ++ news) → NineL r tl → Q r { s with heap := h', toks := tk' })
    (F : Fr h₀ L h m) (N : News h₀ L h l) (hq : (q, listOf vs.toArray n) ∈ l) (hl : ∀ p ∈ news, p ∈ l) (hi : IntsAre vs ns) (h9 : ns.length = 9) : Q (.ref q) { s with heap := h, toks := tk } := by
  obtain ⟨a0, a1, a2, a3, a4, a5, a6, a7, a8, t0, t1, t2, t3, t4, t5, t6, t7, t8, rfl⟩ := nine hi h9
  refine hret (.ref q) [(q, _)] h tk F ?_ ⟨q, a0, a1, a2, a3, a4, a5, a6, a7, a8, t0, t1, t2, t3, t4, t5, t6, t7, t8, n, rfl, rfl⟩
  intro p hp
  rcases List.mem_cons.mp hp with rfl | hp
  · exact N _ hq
  · exact N _ (hl _ hp)
theorem c_ticks (w : World) (mean : ExcName → Option Value) (mg mb : Str → Option Value) (news : Led) (l : Addr) (vs : List Value) (ns : List Int) :
    ClT w mean mg mb 2 142 news l vs ns NineL := by
  dsimp only [ClT, PK, PV, PL, PP]
  k_with_none
  w_top off
  k_fill
  intro dp un gd cn cs a ccd cl outer A₀ base h₀ L mm s Q E B F X N T hk hd hu hls hia hln hret
  refine wpAny_call ?_
  (k_dflt (refine' code_def ?k1 ?k2 ?k3 ?k4 ?k5 ?kA ?kF ?kK ?k6 ?k7 ?k8 ?k9 ?kB ?_ ?c2 ?c3 ?c4 ?c5; (case kA => exact rfl); (case kF => exact rfl); (case kK => first | exact rfl | assumption); (case k1 => k_asm); (case k2 => k_asm); (case k3 => k_asm); (case k4 => k_asm); (case k5 => k_asm); (case k6 => k_is); (case k7 => k_is); (case k8 => first | omega | ktr_room); (case k9 => first | exact BindsTo.of_eq rfl | exact binds_K (by k_in) rfl (by k_is) rfl rfl rfl); (case c5 => decide); (case kB => exact locs rfl); (case c2 => exact rfl); (case c3 => exact rfl); (case c4 => exact rfl); k_whole; intro g' L' h' FG' F' N' B' X' T'; (try dsimp only); (try k_lift B'); (try k_fold)))
  k_with "pyIter ref" => k_state (fun pre items => items.length = pre.length) "ticks"
  (repeat' (first | (k_unfold; (try dsimp only)) | (k_end; wrow_close) | ((fail_if_success (with_reducible show wpAny _ _ (PySem.exec (PySem.Stmt.While _ _ _ _) _) _ _ _)); first | walk1 | (dsimp only; walk1) | (leave1; try dsimp only)) | fail "no step"))
  k_while (fun _ items clock => items.length ≤ 9 ∧ 0 ≤ clock ∧ clock ≤ 90001) (fun _ items _ => 9 - items.length) "ticks" "clock"
  (repeat' (first | (k_unfold; (try dsimp only)) | (k_end; wrow_close) | ((fail_if_success (with_reducible show wpAny _ _ (PySem.exec (PySem.Stmt.While _ _ _ _) _) _ _ _)); first | walk1 | (dsimp only; walk1) | (leave1; try dsimp only)) | fail "no step"))
  all_goals (refine ticks_end hret (by assumption) (by assumption) (by k_mem) (by intro p hp; repeat' (first | exact hp | refine List.mem_cons_of_mem _ ?_)) (by assumption) (by omega))
theorem f14 (z : Int) : 14 ≤ 14 + z.fmod 3 := by have := fm_lo (z := z) (m := 3) (by decide); omega
theorem f16 (z : Int) : 14 + z.fmod 3 ≤ 16 := by have := fm_hi (z := z) (m := 3) (by decide); omega
theorem f3 (z : Int) : 3 ≤ 3 + z.fmod 7 := by have := fm_lo (z := z) (m := 7) (by decide); omega
theorem f9 (z : Int) : 3 + z.fmod 7 ≤ 9 := by have := fm_hi (z := z) (m := 7) (by decide); omega
theorem g1 (z : Int) : 1 ≤ 1 + z.fmod 9 := by have := fm_lo (z := z) (m := 9) (by decide); omega
theorem g9 (z : Int) : 1 + z.fmod 9 ≤ 9 := by have := fm_hi (z := z) (m := 9) (by decide); omega
theorem u0 (z : Int) : 0 ≤ z.fmod 1000 := fm_lo (by decide)
theorem u9 (z : Int) : z.fmod 1000 ≤ 999 := by have := fm_hi (z := z) (m := 1000) (by decide); omega
theorem w1 (z : Int) : 0 ≤ z.fmod 5300 := fm_lo (by decide)
theorem w3 (z : Int) : z.fmod 5300 ≤ 9900 := by have := fm_hi (z := z) (m := 5300) (by decide); omega
theorem edge_b (y : Int) : 2400 ≤ (2 ^ (14 + y.fmod 3 - 1).toNat * 30103 : Int).fdiv 100000 ∧ (2 ^ (14 + y.fmod 3 - 1).toNat * 30103 : Int).fdiv 100000 ≤ 9870 := by
  have h1 := fm_lo (z := y) (m := 3) (by decide)
  have h2 := fm_hi (z := y) (m := 3) (by decide)
  have : y.fmod 3 = 0 ∨ y.fmod 3 = 1 ∨ y.fmod 3 = 2 := by omega
  rcases this with h | h | h <;> rw [h] <;> decide
theorem w2 (y z : Int) : 0 ≤ (2 ^ (14 + y.fmod 3 - 1).toNat * 30103 : Int).fdiv 100000 - 2 + z.fmod 4 := by
  have := edge_b y; have := fm_lo (z := z) (m := 4) (by decide); omega
theorem w4 (y z : Int) : (2 ^ (14 + y.fmod 3 - 1).toNat * 30103 : Int).fdiv 100000 - 2 + z.fmod 4 ≤ 9900 := by
  have := edge_b y; have := fm_hi (z := z) (m := 4) (by decide); omega
theorem wsl1 (z y : Int) : z.fmod 5300 + sln (y.fmod 1000) ≤ 10100 := by have := w3 z; have := sl_bd (u0 y) (u9 y); omega
theorem wsl2 (x y z : Int) : (2 ^ (14 + x.fmod 3 - 1).toNat * 30103 : Int).fdiv 100000 - 2 + z.fmod 4 + sln (y.fmod 1000) ≤ 10100 := by have := w4 x z; have := sl_bd (u0 y) (u9 y); omega
theorem wslk {k : Int} (h : k ≤ 9900) (y : Int) : k + sln (y.fmod 1000) ≤ 10100 := by have := sl_bd (u0 y) (u9 y); omega
theorem wsl3 (y : Int) : sln (y.fmod 1000) ≤ 10100 := by have := sl_bd (u0 y) (u9 y); omega
theorem holds : PySem.Challenge.rw_pq0745_01.Holds := Mine.hd (by
  k_with_none
  w_top off
  k_go0
  (all_goals try k_fold)
  (repeat' (first | (k_unfold; (try dsimp only)) | ((with_reducible show wpAny _ _ (pyIter (Value.ref _)) (fun it s₂ => LoopAtV _ _ _ _ _ (Str.ofString "way") _ _ _ it s₂) _ _); (rename Fr _ _ _ _ => lF'); (rename News _ _ _ _ => lN'); (with_unfolding_all refine list_invK (vs := [_, _]) ysW 0 9900 (by rfl) lF' lN' (by k_mem) (by rfl) (by rfl) (two_ints (w1 _) (w3 _) (w2 _ _) (w4 _ _)) (fun k' t' hk0' hk1' I' l1 o' it' h' tk' hit' F' N' => ?_) (fun o' h' tk' F' N' => ?_)); clear lF') | ((with_reducible show wpAny _ _ (pyIter (Value.ref _)) (fun it s₂ => LoopAtV _ _ _ _ _ (Str.ofString "side") _ _ _ it s₂) _ _); (rename Fr _ _ _ _ => lF'); (rename News _ _ _ _ => lN'); (with_unfolding_all refine list_inv2 (a := _) (b := _) ysS (by rfl) lF' lN' (by k_mem) (by rfl) (by rfl) (fun I' l1 o' it' h' tk' hit' F' N' => ?_) (fun I' l1 o' it' h' tk' hit' F' N' => ?_) (fun o' h' tk' F' N' => ?_)); clear lF') | ((with_reducible show wpAny _ _ (pyIter (Value.ref _)) (fun it s₂ => LoopAtV _ _ _ _ _ (Str.ofString "down") _ _ _ it s₂) _ _); (rename Fr _ _ _ _ => lF'); (rename News _ _ _ _ => lN'); (with_unfolding_all refine list_inv2 (a := _) (b := _) ysD (by rfl) lF' lN' (by k_mem) (by rfl) (by rfl) (fun I' l1 o' it' h' tk' hit' F' N' => ?_) (fun I' l1 o' it' h' tk' hit' F' N' => ?_) (fun o' h' tk' F' N' => ?_)); clear lF') | ((with_reducible show UnrEnd _ _ _ _ _ _ _); refine inv_end (by assumption) (by assumption) ?s1 ?s2 ?s3; (case s1 => (intro p hp; repeat' (first | exact hp | refine List.mem_cons_of_mem _ ?_))); (case s2 => assumption); (case s3 => (intro y hy; (repeat' (first | with_reducible rfl | exact ovr_off hy | refine (ovr_off (fun e => hy (List.mem_cons_of_mem _ e))).trans ?_ | refine (ovr_off (fun e => hy (List.mem_cons_of_mem _ (List.mem_cons_of_mem _ (List.mem_cons_of_mem _ e))))).trans ?_ | refine off_ite (by (intro e; subst e; exact hy (by repeat' (first | exact List.mem_cons_self .. | refine List.mem_cons_of_mem _ ?_)))) ?_))))) | ((with_reducible show wpAny _ _ (binaryOp PySem.Operator.Mult (Value.int _ _) (Value.int _ _)) _ _ _); refine PyProof.Rows.mul_int ?_ ?fm; (case fm => exact bk_mul (Bs.bk (bs_small (vv_pos (g1 _) (g9 _) (u0 _) (u9 _)) (vv_lt (g1 _) (g9 _) (u0 _) (u9 _)))) (Bs.bk (bs_p10 (Int.le_trans (by assumption) (by decide)))))) | ((with_reducible show wpAny _ _ (PySem.call (Value.ref 142) _ _) _ _ _); k_dflt (refine' c_ticks _ _ _ _ _ _ _ _ _ _ _ _ _ _ _ _ _ _ _ _ _ _ _ _ _ ?k1 ?k2 ?k3 ?k4 ?k5 ?k6 ?k7 ?k8 ?k9 ?k10 ?k11 ?_; (case k1 => k_asm); (case k2 => k_asm); (case k3 => k_asm); (case k4 => k_asm); (case k5 => k_asm); (case k6 => first | exact rfl | assumption); (case k7 => ktr_room); (case k8 => ktr_units); (case k9 => k_asm); (case k10 => l_ints); (case k11 => l_fit)); rintro _ _ h' tk' F' N' ⟨x, a0, a1, a2, a3, a4, a5, a6, a7, a8, t0, t1, t2, t3, t4, t5, t6, t7, t8, n, rfl, rfl⟩; (simp only [List.cons_append, List.nil_append] at N')) | ((with_reducible show wpAny _ _ (PySem.call (Value.type "int") [Value.str _ _] _) _ _ _); refine KIN.call_text (law_int (g1 _) (g9 _) (u0 _) (u9 _)) (law_int_len (g1 _) (g9 _) (u0 _) (u9 _)) ?_) | ((with_reducible show wpAny _ _ (PySem.call (Value.ref 156) _ _) _ _ _); k_dflt (refine' (c_bits _ _ _ _ _ _ _ _ _ _ _ _ _ ?q1 ?q2 ?q3 ?q4 ?q5 ?q6) _ _ _ _ _ _ _ _ _ _ _ _ _ _ _ _ _ ?k1 ?k2 ?k3 ?k4 ?k5 ?k6 ?k7 ?k8 ?_; (case k1 => k_asm); (case k2 => k_asm); (case k3 => k_asm); (case k4 => k_asm); (case k5 => k_asm); (case k6 => first | exact rfl | assumption); (case k7 => first | omega | ktr_room); (case k8 => first | omega | ktr_units); (case q1 => exact f14 _); (case q2 => exact f16 _); (case q3 => exact f3 _); (case q4 => exact f9 _); (case q5 => (first | exact bs_dp (vv_pos (g1 _) (g9 _) (u0 _) (u9 _)) (vv_lt (g1 _) (g9 _) (u0 _) (u9 _)) (Int.le_trans (by assumption) (by decide)) | exact bs_small (vv_pos (g1 _) (g9 _) (u0 _) (u9 _)) (vv_lt (g1 _) (g9 _) (u0 _) (u9 _)))); (case q6 => exact bs_p10 (by first | exact wslk (by assumption) _ | exact wsl3 _)); rintro _ _ h' tk' F' N' ⟨rfl, t', rfl⟩; (try simp only [List.nil_append, List.cons_append] at N'); (try dsimp only); (try k_fold))) | ((with_reducible show wpAny _ _ (PySem.call (Value.ref 135) [_, Value.str (txt _ _ _ _ _) _] _) _ _ _); ((with_reducible show wpAny _ _ (PySem.call (Value.ref 135) _ _) _ _ _); k_dflt (refine' (c_read _ _ _ _ _ _ _ _ _ _ _ _ _ _ _ _ _ _ _ _ _ ?q1 ?q2 ?q3 ?q4 _ _ _ _ _ _ ?q5 ?q6 ?q7 ?q8 ?q9 ?q10 _ ?q11) _ _ _ _ _ _ _ _ _ _ _ _ _ _ _ _ _ ?k1 ?k2 ?k3 ?k4 ?k5 ?k6 ?k7 ?k8 ?_; (case k1 => k_asm); (case k2 => k_asm); (case k3 => k_asm); (case k4 => first | k_asm | exact led_front (by k_asm) (by k_mem) (by k_mem)); (case k5 => k_asm); (case k6 => first | exact rfl | assumption); (case k7 => first | omega | ktr_room); (case k8 => first | omega | ktr_units); (case q1 => exact f14 _); (case q2 => exact f16 _); (case q3 => exact f3 _); (case q4 => exact f9 _); (case q5 => exact g1 _); (case q6 => exact g9 _); (case q7 => exact u0 _); (case q8 => exact u9 _); (case q9 => assumption); (case q10 => assumption); (case q11 => (with_reducible (first | exact Rd.pu | exact Rd.pd | exact Rd.nu | exact Rd.nd))); rintro _ _ h' tk' F' N' ⟨q, t', rfl, rfl⟩; (try simp only [List.nil_append, List.cons_append] at N'); (try dsimp only); (try k_fold)))) | ((with_reducible show wpAny _ _ (PySem.call (Value.ref 135) _ _) _ _ _); k_dflt (refine' (c_read_last _ _ _ _ _ _ _ _ _ _ _ _ _ _ _ _ _ _ _ _ _ ?q1 ?q2 ?q3 ?q4 _ _ ?q5) _ _ _ _ _ _ _ _ _ _ _ _ _ _ _ _ _ ?k1 ?k2 ?k3 ?k4 ?k5 ?k6 ?k7 ?k8 ?_; (case k1 => k_asm); (case k2 => k_asm); (case k3 => k_asm); (case k4 => first | k_asm | exact led_front (by k_asm) (by k_mem) (by k_mem)); (case k5 => k_asm); (case k6 => first | exact rfl | assumption); (case k7 => first | omega | ktr_room); (case k8 => first | omega | ktr_units); (case q1 => exact f14 _); (case q2 => exact f16 _); (case q3 => exact f3 _); (case q4 => exact f9 _); (case q5 => (first | rfl | decide)); rintro _ _ h' tk' F' N' ⟨q, t', rfl, rfl⟩; (try simp only [List.nil_append, List.cons_append] at N'); (try dsimp only); (try k_fold))) | (k_end; wrow_close) | ((fail_if_success (with_reducible show wpAny _ _ (PySem.exec (PySem.Stmt.While _ _ _ _) _) _ _ _)); first | walk1 | (dsimp only; walk1) | (leave1; try dsimp only)) | fail "no step"))
)
end Mine
theorem PySem.Challenge.cw_pq0745_01_holds : PySem.Challenge.rw_pq0745_01.Holds := by
  exact Mine.holds
