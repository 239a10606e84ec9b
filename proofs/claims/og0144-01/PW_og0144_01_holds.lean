import PyProof.Rows.All
import Wide.All
import OpenK.AllK
import Wide.FinOn
import KE.BitLaws
import KE.IntBitsLaws
import KE.BytesMake
import Lean
import PySem.Challenge.RW_og0144_01
set_option Elab.async false
set_option linter.all false
section
open PySem PyProof.Rows
namespace Mine
theorem bitAnd_nat (a b : Nat) : Builtin.bitAnd (a : Int) (b : Int) = ((a &&& b : Nat) : Int) := by
  unfold Builtin.bitAnd
  rfl
theorem nand_mask (a n : Nat) : a &&& (2 ^ n - 1) = a % 2 ^ n := Nat.and_two_pow_sub_one_eq_mod a n
theorem nand_sh (a v n : Nat) (hv : v < 2 ^ n) : (a * 2 ^ n) &&& v = 0 := by
  have h1 : v = (2 ^ n - 1) &&& v := by rw [Nat.and_comm, nand_mask, Nat.mod_eq_of_lt hv]
  rw [h1, ← Nat.and_assoc, nand_mask, Nat.mul_mod_left, Nat.zero_and]
theorem bitAnd_mask {x : Int} (n : Nat) (hx : 0 ≤ x) : Builtin.bitAnd x (2 ^ n - 1) = x % 2 ^ n := by
  obtain ⟨k, rfl⟩ := Int.eq_ofNat_of_zero_le hx
  have e : ((2 : Int) ^ n - 1) = ((2 ^ n - 1 : Nat) : Int) := by
    have := Nat.one_le_two_pow (n := n)
    push_cast [this]
    rfl
  rw [e, bitAnd_nat, nand_mask]
  push_cast
  rfl
theorem bitOr_sh {a v : Int} (n : Nat) (ha : 0 ≤ a) (hv : 0 ≤ v) (hv1 : v < 2 ^ n) : Builtin.bitOr (a * 2 ^ n) v = a * 2 ^ n + v := by
  obtain ⟨a, rfl⟩ := Int.eq_ofNat_of_zero_le ha
  obtain ⟨v, rfl⟩ := Int.eq_ofNat_of_zero_le hv
  have e : ((a : Int) * 2 ^ n) = ((a * 2 ^ n : Nat) : Int) := by push_cast; rfl
  rw [bitOr_and, e, bitAnd_nat, nand_sh a v n (by exact_mod_cast hv1)]
  omega
end Mine

end
namespace Mine
theorem pow_add_int (a b : Nat) : (2 : Int) ^ (a + b) = 2 ^ a * 2 ^ b := Int.pow_add 2 a b
theorem glue_lt {hd v : Int} {c n : Nat} (h1 : hd < 2 ^ c) (v1 : v < 2 ^ n) (h0 : 0 ≤ hd) : hd * 2 ^ n + v < 2 ^ (c + n) := by
  rw [pow_add_int]
  have hp : (0 : Int) < 2 ^ n := Int.pow_pos (by decide)
  have := Int.mul_le_mul_of_nonneg_right (show hd ≤ 2 ^ c - 1 by omega) (Int.le_of_lt hp)
  rw [Int.sub_mul, Int.one_mul] at this
  omega
theorem glue_nn {hd v : Int} {n : Nat} (h0 : 0 ≤ hd) (v0 : 0 ≤ v) : 0 ≤ hd * 2 ^ n + v := by
  have hp : (0 : Int) < 2 ^ n := Int.pow_pos (by decide)
  have := Int.mul_nonneg h0 (Int.le_of_lt hp)
  omega
theorem put_byte {hd v ct n : Int} (hc0 : 0 ≤ ct) (hn : 0 ≤ n) (h0 : 0 ≤ hd) (h1 : hd < 2 ^ ct.toNat) (v0 : 0 ≤ v) (v1 : v < 2 ^ n.toNat) (h8 : 8 ≤ ct + n) :
    0 ≤ (hd * 2 ^ n.toNat + v) / 2 ^ (ct + n - 8).toNat ∧ (hd * 2 ^ n.toNat + v) / 2 ^ (ct + n - 8).toNat < 256 := by
  have hp : (0 : Int) < 2 ^ (ct + n - 8).toNat := Int.pow_pos (by decide)
  refine ⟨Int.ediv_nonneg (glue_nn h0 v0) (Int.le_of_lt hp), Int.ediv_lt_of_lt_mul hp ?_⟩
  have h := glue_lt h1 v1 h0
  have e : ct.toNat + n.toNat = 8 + (ct + n - 8).toNat := by omega
  rw [e, pow_add_int] at h
  exact h
end Mine

/-! the plain law: numbers of given widths, glued into bytes and taken out again -/
namespace Mine
noncomputable def numL (K : Int) : List UInt8 → Int
  | [] => K
  | y :: r => numL (K * 256 + (y.toNat : Int)) r
noncomputable def numB (b : Array UInt8) : Int := numL 0 b.toList
theorem numL_append (K : Int) (l r : List UInt8) : numL K (l ++ r) = numL (numL K l) r := by
  induction l generalizing K with
  | nil => rfl
  | cons y l ih => exact ih _
theorem numB_push (b : Array UInt8) (y : UInt8) : numB (b.push y) = numB b * 256 + (y.toNat : Int) := by
  unfold numB
  rw [Array.toList_push, numL_append]
  rfl
theorem byte_val {r : Int} (h0 : 0 ≤ r) (h1 : r < 256) : ((r.toNat.toUInt8).toNat : Int) = r := by
  have h : r.toNat < 256 := by omega
  have : r.toNat.toUInt8.toNat = r.toNat := by
    show (UInt8.ofNat r.toNat).toNat = r.toNat
    rw [UInt8.toNat_ofNat']
    exact Nat.mod_eq_of_lt h
  rw [this]; omega
theorem pow_pos2 (n : Nat) : (0 : Int) < 2 ^ n := Int.pow_pos (by decide)
/-- numbers with their widths, glued behind K -/
noncomputable def vnum (K : Int) : List (Int × Nat) → Int
  | [] => K
  | (x, n) :: r => vnum (K * 2 ^ n + x) r
noncomputable def tbits : List (Int × Nat) → Nat
  | [] => 0
  | (_, n) :: r => n + tbits r
noncomputable def Fits (l : List (Int × Nat)) : Prop := ∀ p ∈ l, 0 ≤ p.1 ∧ p.1 < 2 ^ p.2 ∧ p.2 ≤ 8
theorem vnum_split : ∀ (l : List (Int × Nat)) (K : Int), Fits l → ∃ R, vnum K l = K * 2 ^ tbits l + R ∧ 0 ≤ R ∧ R < 2 ^ tbits l
  | [], K, _ => ⟨0, by simp [vnum, tbits], by simp [tbits], by simp [tbits]⟩
  | (x, n) :: r, K, h => by
    obtain ⟨h0, h1, _⟩ := h _ (.head _)
    obtain ⟨R, e, r0, r1⟩ := vnum_split r (K * 2 ^ n + x) fun p hp => h p (.tail _ hp)
    refine ⟨x * 2 ^ tbits r + R, ?_, glue_nn h0 r0, ?_⟩
    · show vnum (K * 2 ^ n + x) r = K * 2 ^ (n + tbits r) + (x * 2 ^ tbits r + R)
      rw [e, pow_add_int, Int.add_mul, Int.mul_assoc, Int.add_assoc]
    · exact glue_lt h1 r1 h0
/-- what stands in the writer -/
noncomputable def WR (b : Array UInt8) (hd ct V : Int) (T : Nat) : Prop :=
  0 ≤ ct ∧ ct < 8 ∧ 0 ≤ hd ∧ hd < 2 ^ ct.toNat ∧ numB b * 2 ^ ct.toNat + hd = V ∧ 8 * b.size + ct.toNat = T
/-- one number put: what stands behind it -/
noncomputable def PutR (b : Array UInt8) (hd ct v n : Int) (b' : Array UInt8) (hd' ct' : Int) : Prop :=
  (ct + n < 8 ∧ b' = b ∧ hd' = hd * 2 ^ n.toNat + v ∧ ct' = ct + n) ∨
  (8 ≤ ct + n ∧ b' = b.push ((hd * 2 ^ n.toNat + v) / 2 ^ (ct + n - 8).toNat).toNat.toUInt8 ∧ hd' = (hd * 2 ^ n.toNat + v) % 2 ^ (ct + n - 8).toNat ∧ ct' = ct + n - 8)
theorem wr_put {b b' : Array UInt8} {hd ct v n hd' ct' V : Int} {T : Nat} (h : WR b hd ct V T) (p : PutR b hd ct v n b' hd' ct') (hv0 : 0 ≤ v) (hn : 0 ≤ n) (hn8 : n ≤ 8) (hv1 : v < 2 ^ n.toNat) :
    WR b' hd' ct' (V * 2 ^ n.toNat + v) (T + n.toNat) := by
  obtain ⟨c0, c1, d0, d1, e, t⟩ := h
  have hH0 := glue_nn (n := n.toNat) d0 hv0
  have hH1 := glue_lt d1 hv1 d0
  rcases p with ⟨h8, rfl, rfl, rfl⟩ | ⟨h8, rfl, rfl, rfl⟩
  · have ec : (ct + n).toNat = ct.toNat + n.toNat := by omega
    refine ⟨by omega, h8, hH0, by rw [ec]; exact hH1, ?_, by rw [ec]; omega⟩
    rw [ec, pow_add_int, ← e, Int.add_mul, Int.mul_assoc, Int.add_assoc]
  · obtain ⟨pb0, pb1⟩ := put_byte c0 hn d0 d1 hv0 hv1 h8
    have ec : ct.toNat + n.toNat = 8 + (ct + n - 8).toNat := by omega
    have hp := pow_pos2 (ct + n - 8).toNat
    refine ⟨by omega, by omega, Int.emod_nonneg _ (Int.ne_of_gt hp), Int.emod_lt_of_pos _ hp, ?_, by rw [Array.size_push]; omega⟩
    rw [numB_push, byte_val pb0 pb1]
    have e2 := Int.mul_ediv_add_emod (hd * 2 ^ n.toNat + v) (2 ^ (ct + n - 8).toNat)
    have e3 : (2 : Int) ^ ct.toNat * 2 ^ n.toNat = 256 * 2 ^ (ct + n - 8).toNat := by
      rw [← pow_add_int, ec, pow_add_int]; rfl
    rw [Int.mul_comm (2 ^ (ct + n - 8).toNat) _] at e2
    rw [← e, Int.add_mul, Int.add_mul, Int.mul_assoc, Int.mul_assoc, e3, Int.add_assoc, e2, Int.add_assoc]
/-- the bytes of a stream: the number, with less than a byte of noughts behind it -/
noncomputable def DataOf (V : Int) (T : Nat) (a : Array UInt8) : Prop := ∃ pad : Nat, pad < 8 ∧ numB a = V * 2 ^ pad ∧ 8 * a.size = T + pad
theorem wr_end {b : Array UInt8} {hd ct V : Int} {T : Nat} (h : WR b hd ct V T) : DataOf V T (if ct = 0 then b else b.push (hd * 2 ^ (8 - ct).toNat).toNat.toUInt8) := by
  obtain ⟨c0, c1, d0, d1, e, t⟩ := h
  by_cases hc : ct = 0
  · subst hc
    rw [if_pos rfl]
    refine ⟨0, by decide, ?_, by omega⟩
    simp at e d1
    have : hd = 0 := by omega
    subst this
    simp [← e]
  · rw [if_neg hc]
    have ec : ct.toNat + (8 - ct).toNat = 8 := by omega
    have h1 : hd * 2 ^ (8 - ct).toNat < 256 := by
      have h := glue_lt (v := 0) (n := (8 - ct).toNat) d1 (pow_pos2 _) d0
      rw [ec] at h
      omega
    have h0 : 0 ≤ hd * 2 ^ (8 - ct).toNat := by
      have h := glue_nn (n := (8 - ct).toNat) d0 (Int.le_refl 0)
      omega
    refine ⟨(8 - ct).toNat, by omega, ?_, by rw [Array.size_push]; omega⟩
    rw [numB_push, byte_val h0 h1, ← e, Int.add_mul, Int.mul_assoc, ← pow_add_int, ec]
    rfl
/-- the reader: K is the number of what has been taken, held the bits at hand, the first `at` bytes of d being read -/
noncomputable def RD (d : List UInt8) (at' held ct K : Int) : Prop :=
  0 ≤ at' ∧ at' ≤ d.length ∧ 0 ≤ ct ∧ 0 ≤ held ∧ held < 2 ^ ct.toNat ∧ numL 0 (d.take at'.toNat) = K * 2 ^ ct.toNat + held
theorem numL_lt : ∀ (l : List UInt8) (K : Int), ∃ R, numL K l = K * 2 ^ (8 * l.length) + R ∧ 0 ≤ R ∧ R < 2 ^ (8 * l.length)
  | [], K => ⟨0, by simp [numL], by simp, by simp⟩
  | y :: r, K => by
    obtain ⟨R, e, r0, r1⟩ := numL_lt r (K * 256 + (y.toNat : Int))
    have hy : (y.toNat : Int) < 2 ^ 8 := by
      have := y.toNat_lt
      have e8 : (2 : Int) ^ 8 = 256 := by decide
      omega
    have hy0 : (0 : Int) ≤ (y.toNat : Int) := Int.natCast_nonneg _
    refine ⟨(y.toNat : Int) * 2 ^ (8 * r.length) + R, ?_, glue_nn hy0 r0, ?_⟩
    · show numL (K * 256 + (y.toNat : Int)) r = _
      rw [e]
      have : 8 * (y :: r).length = 8 + 8 * r.length := by simp only [List.length_cons]; omega
      rw [this, pow_add_int, Int.add_mul, Int.mul_assoc, Int.add_assoc]
      rfl
    · have : 8 * (y :: r).length = 8 + 8 * r.length := by simp only [List.length_cons]; omega
      rw [this]
      exact glue_lt hy r1 hy0
theorem div_uniq {D K K' R R' p : Int} (e : D = K * p + R) (e' : D = K' * p + R') (h0 : 0 ≤ R) (h1 : R < p) (h0' : 0 ≤ R') (h1' : R' < p) : K = K' := by
  have a : D / p = K := by
    rw [e, Int.add_comm, Int.add_mul_ediv_right _ _ (by omega), Int.ediv_eq_zero_of_lt h0 h1, Int.zero_add]
  have b : D / p = K' := by
    rw [e', Int.add_comm, Int.add_mul_ediv_right _ _ (by omega), Int.ediv_eq_zero_of_lt h0' h1', Int.zero_add]
  omega
/-- one number taken -/
noncomputable def TakeR (d : List UInt8) (at' held ct n v at2 held2 ct2 : Int) : Prop :=
  (n ≤ ct ∧ v = held / 2 ^ (ct - n).toNat ∧ at2 = at' ∧ held2 = held % 2 ^ (ct - n).toNat ∧ ct2 = ct - n) ∨
  (ct < n ∧ at' < d.length ∧ v = (held * 2 ^ 8 + ((d.getD at'.toNat 0).toNat : Int)) / 2 ^ (ct + 8 - n).toNat ∧ at2 = at' + 1 ∧ held2 = (held * 2 ^ 8 + ((d.getD at'.toNat 0).toNat : Int)) % 2 ^ (ct + 8 - n).toNat ∧ ct2 = ct + 8 - n)
theorem div_bits {h : Int} {c n : Nat} {K : Int} (h0 : 0 ≤ h) : K * 2 ^ (n + c) + h = (K * 2 ^ n + h / 2 ^ c) * 2 ^ c + h % 2 ^ c ∧ 0 ≤ h % 2 ^ c ∧ h % 2 ^ c < 2 ^ c := by
  have hp := pow_pos2 c
  have e2 := Int.mul_ediv_add_emod h (2 ^ c)
  rw [Int.mul_comm (2 ^ c) _] at e2
  refine ⟨?_, Int.emod_nonneg _ (Int.ne_of_gt hp), Int.emod_lt_of_pos _ hp⟩
  rw [pow_add_int, Int.add_mul, Int.mul_assoc, Int.add_assoc, e2]
theorem rd_take {d : List UInt8} {at' held ct K n v at2 held2 ct2 : Int} (h : RD d at' held ct K) (t : TakeR d at' held ct n v at2 held2 ct2) (hc8 : ct < 8) (hn : 0 ≤ n) (hn8 : n ≤ 8) :
    RD d at2 held2 ct2 (K * 2 ^ n.toNat + v) ∧ 8 * at2 - ct2 = 8 * at' - ct + n ∧ ct2 < 8 := by
  obtain ⟨a0, a1, c0, h0, h1, e⟩ := h
  rcases t with ⟨hc, rfl, rfl, rfl, rfl⟩ | ⟨hc, hl, rfl, rfl, rfl, rfl⟩
  · have ec : ct.toNat = n.toNat + (ct - n).toNat := by omega
    obtain ⟨e1, r0, r1⟩ := div_bits (c := (ct - n).toNat) (n := n.toNat) (K := K) h0
    rw [← ec] at e1
    exact ⟨⟨a0, a1, by omega, r0, r1, e.trans e1⟩, by omega, by omega⟩
  · have ec : ct.toNat + 8 = n.toNat + (ct + 8 - n).toNat := by omega
    have hy0 : (0 : Int) ≤ ((d.getD at'.toNat 0).toNat : Int) := Int.natCast_nonneg _
    have hH := glue_nn (n := 8) h0 hy0
    obtain ⟨e1, r0, r1⟩ := div_bits (c := (ct + 8 - n).toNat) (n := n.toNat) (K := K) hH
    rw [← ec] at e1
    refine ⟨⟨by omega, by omega, by omega, r0, r1, ?_⟩, by omega, by omega⟩
    have hlt : at'.toNat < d.length := by omega
    have ea : (at' + 1).toNat = at'.toNat + 1 := by omega
    rw [ea, List.take_add_one, List.getElem?_eq_getElem hlt, numL_append, e]
    have eg : d.getD at'.toNat 0 = d[at'.toNat] := by rw [List.getD_eq_getElem?_getD, List.getElem?_eq_getElem hlt]; rfl
    rw [eg] at e1 ⊢
    show (K * 2 ^ ct.toNat + held) * 256 + (d[at'.toNat].toNat : Int) = _
    rw [← e1, pow_add_int, Int.add_mul, Int.mul_assoc, Int.add_assoc]
    rfl
/-- what is left to be taken: the numbers r, then q bits -/
noncomputable def Left (d : List UInt8) (at' ct K : Int) (r : List (Int × Nat)) (q : Nat) : Prop :=
  ∃ low, numL 0 d = vnum K r * 2 ^ q + low ∧ 0 ≤ low ∧ low < 2 ^ q ∧ 8 * (d.length : Int) = (8 * at' - ct) + tbits r + q
theorem left_take {d : List UInt8} {at' ct K x v at2 held2 ct2 : Int} {n q : Nat} {r : List (Int × Nat)} (h : Left d at' ct K ((x, n) :: r) q) (hf : Fits ((x, n) :: r))
    (rd : RD d at2 held2 ct2 (K * 2 ^ n + v)) (hpos : 8 * at2 - ct2 = 8 * at' - ct + n) : v = x ∧ Left d at2 ct2 (K * 2 ^ n + v) r q := by
  obtain ⟨low, e, l0, l1, t⟩ := h
  have hfr : Fits r := fun p hp => hf p (.tail _ hp)
  obtain ⟨a0, a1, c0, h0, h1, en⟩ := rd
  obtain ⟨R, e2, r0, r1⟩ := vnum_split r (K * 2 ^ n + x) hfr
  obtain ⟨S, e3, s0, s1⟩ := numL_lt (d.drop at2.toNat) (numL 0 (d.take at2.toNat))
  rw [← numL_append, List.take_append_drop, en, List.length_drop] at e3
  rw [List.length_drop] at s1
  have eb : ct2.toNat + 8 * (d.length - at2.toNat) = tbits r + q := by
    have : tbits ((x, n) :: r) = n + tbits r := rfl
    rw [this] at t
    omega
  have d1 : numL 0 d = (K * 2 ^ n + v) * 2 ^ (tbits r + q) + (held2 * 2 ^ (8 * (d.length - at2.toNat)) + S) := by
    rw [e3, ← eb, pow_add_int, Int.add_mul, Int.mul_assoc, Int.add_assoc]
  have d2 : numL 0 d = (K * 2 ^ n + x) * 2 ^ (tbits r + q) + (R * 2 ^ q + low) := by
    rw [e]
    show vnum (K * 2 ^ n + x) r * 2 ^ q + low = _
    rw [e2, pow_add_int, Int.add_mul, Int.mul_assoc, Int.add_assoc]
  have b1 := glue_lt h1 s1 h0
  rw [eb] at b1
  have k := div_uniq d1 d2 (glue_nn h0 s0) b1 (glue_nn r0 l0) (glue_lt r1 l1 r0)
  have hv : v = x := by omega
  subst hv
  refine ⟨rfl, low, e, l0, l1, ?_⟩
  have : tbits ((v, n) :: r) = n + tbits r := rfl
  rw [this] at t
  omega
end Mine

open PySem PySem.W PyProof.Rows PySem.Calls PySem.Spec
set_option maxRecDepth 100000
namespace Mine
/-- the builtins whose frames make a bytearray count as held -/
noncomputable def badId (id : String) : Bool := (["bytearray.__contains__", "bytearray.__mod__", "bytearray.__rmod__", "_struct.pack_into.held", "bytearray.find.held"] ++ Builtin.Bytes.decodersThatHold).contains id
noncomputable def okC : Code → Bool
  | .builtin id _ => !badId id
  | _ => true
noncomputable def Cl (Γ : PySem.Ctx) : Prop := okC Γ.code = true ∧ ∀ x ∈ Γ.below, okC x.1 = true
noncomputable def wpC {α : Type} (M : Model) (A : Around) (t : Sem α) (Q : α → Shared → Prop) (E : Value → Shared → Prop) (s : Shared) : Prop :=
  ∀ Γ p, Γ.In A → Cl Γ → Sem.wp M Γ t (fun a _ s' => Q a s') (fun e _ s' => E e s') p s
noncomputable def codeC (M : Model) (A : Around) (c : Code) (R : Result → Shared → Prop) (s : Shared) : Prop :=
  ∀ Γ p, Γ.code = c → Γ.Below A → Cl Γ → wpCode M Γ R p s
section
variable {α β : Type} {M : Model} {A : Around} {E : Value → Shared → Prop} {s : Shared}
theorem wpC.of {t : Sem α} {Q : α → Shared → Prop} (h : wpAny M A t Q E s) : wpC M A t Q E s := fun Γ p hΓ _ => h Γ p hΓ
theorem codeC.of {c : Code} {R : Result → Shared → Prop} (h : codeAny M A c R s) : codeC M A c R s := fun Γ p hc hΓ _ => h Γ p hc hΓ
theorem wpC_pure {a : α} {Q : α → Shared → Prop} (h : Q a s) : wpC M A (pure a) Q E s := fun _ _ _ _ => h
theorem wpC_mono {t : Sem α} {Q Q' : α → Shared → Prop} {E' : Value → Shared → Prop} (h : wpC M A t Q E s) (hQ : ∀ a s, Q a s → Q' a s) (hE : ∀ e s, E e s → E' e s) : wpC M A t Q' E' s :=
  fun Γ p hΓ hC => Sem.wp_mono M Γ t (fun a _ s => hQ a s) (fun e _ s => hE e s) p s (h Γ p hΓ hC)
theorem wpC_bind {m : Sem α} {f : α → Sem β} {Q : β → Shared → Prop} (h : wpC M A m (fun a s' => wpC M A (f a) Q E s') E s) : wpC M A (m >>= f) Q E s := fun Γ p hΓ hC => by
  rw [Sem.wp_bind']
  exact Sem.wp_mono M Γ m (fun a p' s' h' => h' Γ p' hΓ hC) (fun _ _ _ h' => h') p s (h Γ p hΓ hC)
theorem wpC_bindA {m : Sem α} {f : α → Sem β} {Q : β → Shared → Prop} (h : wpAny M A m (fun a s' => wpC M A (f a) Q E s') E s) : wpC M A (m >>= f) Q E s := wpC_bind (wpC.of h)
theorem wpC_onRaise {m : Sem α} {k : Value → Sem Unit} {Q : α → Shared → Prop} (h : wpC M A m Q (fun e s' => wpC M A (k e) (fun _ s'' => E e s'') E s') s) : wpC M A (m.onRaise k) Q E s := fun Γ p hΓ hC => by
  rw [Sem.wp_onRaise]
  exact Sem.wp_mono M Γ m (fun _ _ _ h' => h') (fun e p' s' h' => h' Γ p' hΓ hC) p s (h Γ p hΓ hC)
theorem wpC_holding {vs : List Value} {m : Sem α} {Q : α → Shared → Prop} (h : wpC M A m Q E s) : wpC M A (holding vs m) Q E s :=
  fun Γ p hΓ hC => by rw [Sem.wp_holding]; exact h Γ p hΓ hC
theorem wpC_ite {c : Bool} {a b : Sem α} {Q : α → Shared → Prop} (h1 : c = true → wpC M A a Q E s) (h2 : c = false → wpC M A b Q E s) : wpC M A (if c = true then a else b) Q E s := by
  cases c
  · simpa using h2 rfl
  · simpa using h1 rfl
theorem Cl.enter {Γ : PySem.Ctx} (hC : Cl Γ) {c : Code} (hc : okC c = true) (h : Option Value) (p : Pos) : Cl (Γ.enter c h p) :=
  ⟨hc, fun x hx => by
    rcases List.mem_cons.mp hx with rfl | hx
    · exact hC.1
    · exact hC.2 x hx⟩
theorem Cl.goto {Γ : PySem.Ctx} (hC : Cl Γ) {c : Code} (hc : okC c = true) : Cl (Γ.goto c) := ⟨hc, hC.2⟩
theorem codeC_mono {c : Code} {R R' : Result → Shared → Prop} (h : codeC M A c R s) (hR : ∀ r s, R r s → R' r s) : codeC M A c R' s :=
  fun Γ p hc hΓ hC => wpCode_mono hR (h Γ p hc hΓ hC)
theorem wpC_run {c : Code} {h : Option Value} {Q : Flow → Shared → Prop} (hk : okC c = true)
    (hc : codeC M (A.mark h) c (fun r s' => match r with | .ok f => Q f s' | .error e => E e s') s) (hnb : h ≠ some byPass := by intro x; cases x) : wpC M A (run c h) Q E s :=
  fun Γ p hΓ hC => by rw [Sem.wp_run]; exact hc _ p rfl (hΓ.enter c h p hnb) (hC.enter hk h p)
theorem wpC_runValue {c : Code} {Q : Value → Shared → Prop} (hk : okC c = true)
    (hc : codeC M A c (fun r s' => match r with | .ok (.ret v) => Q v s' | .ok _ => False | .error e => E e s') s) : wpC M A (runValue c) Q E s :=
  fun Γ p hΓ hC => by rw [Sem.wp_runValue]; exact hc _ p rfl (hΓ.enter c none p (by intro x; cases x)) (hC.enter hk none p)
theorem wpC_call {f : Value} {pos : List Value} {kw : List (Str × Value)} {Q : Value → Shared → Prop}
    (hc : codeC M A (.call f ⟨pos, kw⟩) (fun r s' => match r with | .ok (.ret v) => Q v s' | .ok _ => False | .error e => E e s') s) : wpC M A (call f pos kw) Q E s := wpC_runValue rfl hc
/-- what a tree's end must give -/
noncomputable def Fin9 (M : Model) (A : Around) (R : Result → Shared → Prop) (fin : Fin) (s' : Shared) : Prop := match fin with
  | .done f => R (.ok f) s'
  | .again c' => c'.quiet = true ∧ okC c' = true ∧ codeC M A c' R s'
theorem codeC_of_tree {c : Code} {R : Result → Shared → Prop} (h : wpC M (A.under c) (M.den c) (Fin9 M A R) (fun e s' => R (.error e) s') s) : codeC M A c R s := fun Γ p hc hΓ hC => by
  rw [wpCode_iff_wp, hc]
  refine Sem.wp_mono M Γ _ (fun fin p' s' h' => ?_) (fun _ _ _ h' => h') p s (h Γ p (hc ▸ hΓ.in) hC)
  cases fin with
  | done f => exact h'
  | again c' => exact ⟨h'.1, h'.2.2 (Γ.goto c') p' rfl (hΓ.goto c') (hC.goto h'.2.1)⟩
theorem Fin9.ofAny {R : Result → Shared → Prop} {fin : Fin} {s' : Shared} (ho : ∀ c', fin = .again c' → okC c' = true)
    (h : match fin with | .done f => R (.ok f) s' | .again c' => c'.quiet = true ∧ codeAny M A c' R s') : Fin9 M A R fin s' := by
  cases fin with
  | done f => exact h
  | again c' => exact ⟨h.1, ho _ rfl, codeC.of h.2⟩

theorem wpC_exported {v : Value} {Q : Bool → Shared → Prop} (h : Q false s) : wpC M A (Builtin.Bytes.exported v) Q E s := fun Γ p _ hC => by
  unfold Builtin.Bytes.exported
  have key : ∀ (f : Code × Pos → Bool), (∀ c p, okC c = true → f (c, p) = false) → ((Γ.code, p) :: Γ.below).any f = false := fun f hf => by
    rw [List.any_eq_false]
    intro x hx
    rcases List.mem_cons.mp hx with rfl | hx
    · simp [hf _ _ hC.1]
    · obtain ⟨c, q⟩ := x
      simp [hf _ _ (hC.2 _ hx)]
  show Q (((Γ.code, p) :: Γ.below).any _) s
  rw [key]
  · exact h
  · intro c q hc
    split <;> simp_all [okC, badId]
end
end Mine


namespace Mine
section
variable {prog : Program} {w : World} {A : Around} {E : Value → Shared → Prop} {s : Shared} {R : Result → Shared → Prop}
theorem codeC_call_builtin {id : String} {args : Args} {b : Builtin} (hq : plainId id = true) (hk : badId id = false) (hb : entryFor table id = some b)
    (h : wpAny (model prog w) A.in1 (checkBuiltinCall id args) (fun _ s₁ => wpC (model prog w) A.in1 (b args) (Fin9 (model prog w) A R) (fun e s' => R (.error e) s') s₁) (fun e s' => R (.error e) s') s) :
    codeC (model prog w) A (.call (.builtin id) args) R s := by
  have hok : okC (.builtin id args) = true := by show (!badId id) = true; rw [hk]; rfl
  refine codeC_of_tree ?_
  show wpC _ A.in1 (do checkBuiltinCall id args; again (.builtin id args)) _ _ s
  refine wpC_bindA (wpAny_mono h (fun _ s₁ h₁ => wpC_pure ⟨plainId_quiet hq args, hok, codeC_of_tree ?_⟩) fun _ _ h' => h')
  rw [Around.under_plainId hq args]
  show wpC _ _ (match entryFor table id with | some b => b args | none => unsupported ((withoutEnding? id "#data").getD id)) _ _ s₁
  rw [hb]; exact h₁
theorem codeC_builtin {id : String} {args : Args} {b : Builtin} (hb : entryFor table id = some b)
    (h : wpC (model prog w) (A.under (.builtin id args)) (b args) (Fin9 (model prog w) A R) (fun e s' => R (.error e) s') s) : codeC (model prog w) A (.builtin id args) R s := by
  refine codeC_of_tree ?_
  show wpC _ _ (match entryFor table id with | some b => b args | none => unsupported ((withoutEnding? id "#data").getD id)) _ _ s
  rw [hb]; exact h
end
namespace FB
theorem ba_mro : mroOf (.type "bytearray") = pure [.type "bytearray", .type "object"] := by rw [mroOf_type]; kernel_rfl
theorem ba_lookup_new : typeLookup (.type "bytearray") "__new__" = pure (some (.builtin "bytearray.__new__")) := by rw [typeLookup_type, builtinLookup_eq_fast]; kernel_rfl
theorem ba_slot_init : Slot "bytearray" "__init__" "bytearray.__init__" :=
  .of (owner := "bytearray") (n := "__init__") (by rw [typeLookup_type, builtinLookup_eq_fast]; kernel_rfl) (by decide +kernel) (by decide +kernel) (by decide +kernel)
    (by first | exact .inl (by decide +kernel) | exact .inr (by decide +kernel)) (by rw [isSubtype_type]; kernel_rfl)
theorem ba_called : TypeCalled "bytearray" "bytearray.__new__" "bytearray.__init__" :=
  ⟨by decide +kernel, by decide +kernel, ⟨_, _, ba_mro⟩, madeBy_type ba_mro ba_lookup_new (by decide +kernel), by decide +kernel, by rw [isSubtype_type]; kernel_rfl, ba_slot_init⟩
theorem ba_typeCall : checkTypeCall "bytearray" ⟨[], []⟩ = pure () := by kernel_rfl
theorem ba_entry_init : entryFor table "bytearray.__init__" = some Builtin.«bytearray.__init__» := by first | exact entryFor_of_fast (by kernel_rfl) | exact entryFor_of_tree (by kernel_rfl)
theorem ba_slot_append : Slot "bytearray" "append" "bytearray.append" :=
  .of (owner := "bytearray") (n := "append") (by rw [typeLookup_type, builtinLookup_eq_fast]; kernel_rfl) (by decide +kernel) (by decide +kernel) (by decide +kernel)
    (by first | exact .inl (by decide +kernel) | exact .inr (by decide +kernel)) (by rw [isSubtype_type]; kernel_rfl)
theorem ba_entry_append : entryFor table "bytearray.append" = some Builtin.«bytearray.append» := by first | exact entryFor_of_fast (by kernel_rfl) | exact entryFor_of_tree (by kernel_rfl)
theorem ba_rel : typeLookup (.type "bytearray") "__release_buffer__" = pure (some (.builtin "bytearray.__release_buffer__")) := by rw [typeLookup_type, builtinLookup_eq_fast]; kernel_rfl
theorem ba_args_append (a b : Value) : argsOk "bytearray.append" ⟨[a, b], []⟩ := by unfold argsOk; kernel_rfl
theorem ba_args_init (a : Value) : argsOk "bytearray.__init__" ⟨[a], []⟩ := by unfold argsOk; kernel_rfl
end FB

namespace FB
theorem ba_newCall : checkBuiltinCall "bytearray.__new__" ⟨[.type "bytearray"], []⟩ = pure () := by kernel_rfl
theorem ba_entry_new : entryFor table "bytearray.__new__" = some Builtin.«list.__new__» :=
  entryFor_alias (id' := "list.__new__") (by rw [fastTable_eq_tree]; kernel_rfl) (by first | rfl | decide +kernel) (by decide +kernel) (by rw [fastTable_eq_tree]; kernel_rfl)
theorem ba_plain_new : plainId "bytearray.__new__" = true := by decide +kernel
theorem ba_owner : ("bytearray.__new__".splitOn ".__new__").headD "" = "bytearray" := by rw [split_bytearray]; rfl
theorem ba_sub : isSubtype (.type "bytearray") (.type "bytearray") = pure true := by rw [isSubtype_type]; kernel_rfl
end FB
section
variable {prog : Program} {w : World} {A : Around} {E : Value → Shared → Prop} {s : Shared} {R : Result → Shared → Prop}
theorem code_ba_new {Q₁ : Value → Shared → Prop}
    (h : Q₁ (.ref s.heap.objs.size) { s with heap := s.heap.push { cls := .type "bytearray", data := .bytearray #[] } }) :
    codeAny (model prog w) A (.call (.builtin "bytearray.__new__") ⟨[.type "bytearray"], []⟩) (wants Q₁ E) s := by
  refine codeAny_of_tree ?_
  show wpAny _ A.in1 (do checkBuiltinCall "bytearray.__new__" ⟨[.type "bytearray"], []⟩; again (.builtin "bytearray.__new__" ⟨[.type "bytearray"], []⟩)) _ _ s
  refine wpAny_bind (wpAny_of_eq FB.ba_newCall (wpAny_pure ⟨plainId_quiet FB.ba_plain_new _, codeAny_builtin_stack FB.ba_entry_new rfl fun p st => ?_⟩))
  rw [Around.under_plainId FB.ba_plain_new _]
  have hsub := FB.ba_sub
  have hown := FB.ba_owner
  obtain ⟨hp, g, d, tk, os⟩ := s
  simp only [hown]
  wp_walk
  exact h
theorem slotOwn_ba {S : Addr} {Q : Bool → Shared → Prop} (hT : s.TypeIs (.ref S) "bytearray") (h : Q false s) : wpAny (model prog w) A (Builtin.Bytes.ownRelease (.ref S)) Q E s := by
  have hl := FB.ba_rel
  have hsub := FB.ba_sub
  unfold Builtin.Bytes.ownRelease Builtin.Bytes.slotIsOwn
  refine wpAny_bind (wpAny_bind (wpAny_specialOf hT hl ?_))
  dsimp only
  have e1 : ("bytearray.__release_buffer__".endsWith ("." ++ "__release_buffer__")) = true := by decide +kernel
  have e2 : ("bytearray.__release_buffer__".dropRight ("__release_buffer__".length + 1)) = "bytearray" := by decide +kernel
  rw [e1, e2]
  show wpAny _ _ (isInstance (.ref S) (.type "bytearray")) _ _ _
  exact wpAny_isInstance hT hsub (wpAny_pure h)
theorem wpC_checkResize {S : Addr} {b : Array UInt8} {Q : Unit → Shared → Prop} (hS : s.heap.get? S = some { cls := .type "bytearray", data := .bytearray b }) (h : Q () s) : wpC (model prog w) A (Builtin.Bytes.checkResize (.ref S)) Q E s := by
  unfold Builtin.Bytes.checkResize
  refine wpC_bind ?_
  show wpC _ _ (Builtin.Bytes.exported (.ref S) >>= _) _ _ _
  refine wpC_bind (wpC_exported ?_)
  refine wpC.of ?_
  show wpAny _ _ (Builtin.Bytes.exportsOf (.ref S) >>= _) _ _ _
  refine wpAny_bind ?_
  unfold Builtin.Bytes.exportsOf
  refine wpAny_bind (wpAny_load hS ?_)
  exact wpAny_pure (wpAny_pure (wpC_pure h))
theorem wpAny_baWrite {S : Addr} {b : Array UInt8} {f : Array UInt8 → Array UInt8} {Q : Unit → Shared → Prop} (hS : s.heap.get? S = some { cls := .type "bytearray", data := .bytearray b }) (hz : (f b).size ≤ sizeLine)
    (h : Q () { s with heap := s.heap.update S (Obj.mapBytearray f) }) : wpAny (model prog w) A (Builtin.Bytes.write (.ref S) f) Q E s := by
  show wpAny _ _ (updateBytearray S f) _ _ _
  unfold updateBytearray
  refine wpAny_bind (wpAny_load hS ?_)
  show wpAny _ _ (update S (Obj.mapBytearray f) >>= fun _ => lookBehind S) _ _ _
  refine wpAny_bind (wpAny_update hS ?_)
  have hS₂ : (s.heap.update S (Obj.mapBytearray f)).get? S = some { cls := .type "bytearray", data := .bytearray (f b) } := Heap.get?_update_self _ hS rfl
  refine wpAny_lookBehind hS₂ ?_ h
  show (if (f b).size > sizeLine then some "bytearray:memory" else none) = none
  rw [if_neg (by omega)]
theorem call_append {S : Addr} {b : Array UInt8} {n : Int} {t : Tok} {Q : Value → Shared → Prop} (hS : s.heap.get? S = some { cls := .type "bytearray", data := .bytearray b }) (h0 : 0 ≤ n) (h1 : n < 256) (hz : b.size < sizeLine)
    (h : Q .none { s with heap := s.heap.update S (Obj.mapBytearray (·.push n.toNat.toUInt8)) }) : wpC (model prog w) A (call (.builtin "bytearray.append") [.ref S, .int n t]) Q E s := by
  have hT : s.TypeIs (.ref S) "bytearray" := ⟨_, hS, rfl⟩
  refine wpC_call (codeC_call_builtin FB.ba_slot_append.plain (by decide +kernel) FB.ba_entry_append (FB.ba_slot_append.check _ _ _ _ _ _ _ _ hT (FB.ba_args_append _ _) ?_))
  unfold Builtin.«bytearray.append»
  refine wpC_bindA (wpAny_of_eq (a := (Value.ref S, Value.int n t)) rfl ?_)
  dsimp only
  refine wpC_bindA ?_
  unfold Builtin.Bytes.byteValue
  refine wpAny_bind (wpAny_of_eq (rfl : asIndex (.int n t) = pure n) ?_)
  refine bm_if_false (by simp only [Bool.or_eq_false_iff, decide_eq_false_iff_not]; omega) ?_
  refine wpAny_pure (wpC_bind (wpC_checkResize hS (wpC_bindA (wpAny_baWrite hS (by simp only [Array.size_push]; omega) ?_))))
  exact wpC_pure h

theorem code_ba_init {S : Addr} {b : Array UInt8} {Q : Value → Shared → Prop} (hS : s.heap.get? S = some { cls := .type "bytearray", data := .bytearray b })
    (h : Q .none { s with heap := s.heap.update S (Obj.mapBytearray fun _ => #[]) }) : wpC (model prog w) A (call (.builtin "bytearray.__init__") [.ref S]) Q E s := by
  have hT : s.TypeIs (.ref S) "bytearray" := ⟨_, hS, rfl⟩
  refine wpC_call (codeC_call_builtin FB.ba_slot_init.plain (by decide +kernel) FB.ba_entry_init (FB.ba_slot_init.check _ _ _ _ _ _ _ _ hT (FB.ba_args_init _) ?_))
  unfold Builtin.«bytearray.__init__»
  dsimp only
  refine wpC_bindA (slotOwn_ba hT ?_)
  simp only [Bool.false_eq_true, if_false]
  refine wpC_bindA (wpAny_of_eq (a := [none, none, none]) (by kernel_rfl) ?_)
  dsimp only
  refine wpC_bindA (wpAny_of_eq (a := ()) rfl ?_)
  refine wpC_bindA (wpAny_of_eq (a := ()) rfl ?_)
  refine wpC_bind ?_
  show wpC _ _ (Builtin.Bytes.exported (.ref S) >>= _) _ _ _
  refine wpC_bind (wpC_exported ?_)
  refine wpC.of ?_
  show wpAny _ _ (Builtin.Bytes.exportsOf (.ref S) >>= _) _ _ _
  refine wpAny_bind ?_
  unfold Builtin.Bytes.exportsOf
  refine wpAny_bind (wpAny_load hS ?_)
  refine wpAny_pure (wpAny_pure ?_)
  show wpC _ _ (if false = true then _ else _) _ _ _
  simp only [Bool.false_eq_true, if_false]
  refine wpC_bindA (wpAny_baWrite hS (Nat.zero_le _) ?_)
  show wpC _ _ (_ >>= _) _ _ _
  refine wpC_bindA (wpAny_of_eq (a := ()) rfl ?_)
  exact wpC_pure h
theorem wpC_callSpecial {obj f : Value} {T : String} {name : Str} {id : String} {args : List Value} {Q : Option Value → Shared → Prop} (S : Slot T name id) (hT : s.TypeIs obj T)
    (h : wpC (model prog w) A (call (.builtin id) (obj :: args)) (fun v s' => Q (some v) s') E s) : wpC (model prog w) A (callSpecial? obj name args) Q E s := by
  unfold callSpecial?
  refine wpC_bindA (wpAny_specialOf hT S.lookup ?_)
  dsimp only
  refine wpC_holding ?_
  rw [S.bind]
  refine wpC_bindA (wpAny_pure ?_)
  dsimp only
  refine wpC_bind (wpC_mono h (fun v s' h' => wpC_pure h') fun _ _ x => x)
theorem call_bytearray0 {Q : Value → Shared → Prop}
    (h : Q (.ref s.heap.objs.size) { s with heap := (s.heap.push { cls := .type "bytearray", data := .bytearray #[] }).update s.heap.objs.size (Obj.mapBytearray fun _ => #[]) }) :
    wpC (model prog w) A (call (.type "bytearray") []) Q E s := by
  have ft := FB.ba_called
  obtain ⟨c, tl, hmro⟩ := ft.mro
  have hmade := ft.made
  have hsub := ft.sub
  refine wpC_call (codeC_of_tree ?_)
  show wpC _ _ (callAny (.type "bytearray") _) _ _ _
  refine wpC_pure ⟨Code.quiet_builtin _ (by decide +kernel), by decide +kernel, codeC_builtin F.entry_type_call ?_⟩
  rw [Around.under_plain (weight_type_call_type "bytearray" [] []) rfl]
  unfold Builtin.«type.__call__»
  dsimp only
  have h1 := ft.notType
  have h2 := ft.canCreate
  rw [h1, h2]
  simp only [Bool.false_eq_true, if_false]
  refine wpC_bindA (wpAny_of_eq FB.ba_typeCall ?_)
  refine wpC_bindA (wpAny_of_eq hmro ?_)
  simp only [List.isEmpty_cons, Bool.false_eq_true, if_false]
  refine wpC_bindA (wpAny_of_eq hmade ?_)
  dsimp only
  refine wpC_bindA (wpAny_of_eq (a := Value.builtin "bytearray.__new__") rfl ?_)
  refine wpC_bindA (wpAny_holding (wpAny_call ?_))
  refine codeAny_mono (code_ba_new (E := fun _ _ => False) (Q₁ := fun v s' => v = .ref s.heap.objs.size ∧ s' = { s with heap := s.heap.push { cls := .type "bytearray", data := .bytearray #[] } }) ⟨rfl, rfl⟩) fun r s₁ hr => ?_
  cases r with
  | error e => exact hr.elim
  | ok fl =>
    cases fl with
    | ret obj =>
      obtain ⟨rfl, rfl⟩ := hr
      have hS : (s.heap.push { cls := .type "bytearray", data := .bytearray #[] }).get? s.heap.objs.size = some { cls := .type "bytearray", data := .bytearray #[] } := Heap.get?_push_size _ rfl
      have hT : ({ s with heap := s.heap.push { cls := .type "bytearray", data := .bytearray #[] } } : Shared).TypeIs (.ref s.heap.objs.size) "bytearray" := ⟨_, hS, rfl⟩
      refine wpC_bindA (wpAny_isInstance hT hsub ?_)
      simp only [Bool.not_true, Bool.false_eq_true, if_false]
      refine wpC_bind (wpC_holding (wpC_callSpecial (f := .none) FB.ba_slot_init hT (code_ba_init hS ?_)))
      exact wpC_pure h
    | _ => exact hr.elim
end
end Mine

namespace Mine
section
variable {M : Model} {A : Around} {E : Value → Shared → Prop} {s : Shared} {env : Env}
theorem wpC_standAt {pos : Pos} {Q : Unit → Shared → Prop} (h : Q () s) : wpC M A (standAt pos) Q E s := wpC.of (wpAny_standAt h)
theorem wpC_execs_nil {Q : Flow → Shared → Prop} (h : Q .next s) : wpC M A (execs [] env) Q E s := wpC.of (wpAny_execs_nil h)
theorem wpC_execs_cons {st : Stmt} {rest : List Stmt} {Q : Flow → Shared → Prop}
    (h : wpC M A (exec st env) (fun f s' => match f with | .next => wpC M A (execs rest env) Q E s' | f => Q f s') E s) :
    wpC M A (execs (st :: rest) env) Q E s := fun Γ p hΓ hC => by
  rw [execs_cons, Sem.wp_bind']
  refine Sem.wp_mono M Γ _ (fun f p' s' h' => ?_) (fun _ _ _ h' => h') _ _ (h Γ p hΓ hC)
  cases f <;> first | exact h' Γ p' hΓ hC | exact h'
theorem wpC_Assign_Name {x : Str} {pos' : Pos} {value : Expr} {pos : Pos} {Q : Flow → Shared → Prop}
    (h : wpC M A (eval value env) (fun v s₁ => wpAny M A (storeName env x v) (fun _ => Q .next) E s₁) E s)
    (hs : swapsWith value (some (.Name x pos')) pos.line env = pure false := by rfl) :
    wpC M A (exec (.Assign [.Name x pos'] value pos) env) Q E s := fun Γ p hΓ hC => by
  simp only [exec_Assign_Name env x pos' value pos hs, Sem.wp_bind', Sem.wp_cmd_standAt, Sem.wp_bindName, Sem.wp_pure']
  exact Sem.wp_mono M Γ _ (fun v _ s₁ h₁ => h₁ Γ _ hΓ) (fun _ _ _ h' => h') _ _ (h Γ _ hΓ hC)
theorem wpC_Assign_Attribute {o : Expr} {attr : Str} {pos' : Pos} {value : Expr} {pos : Pos} {Q : Flow → Shared → Prop}
    (h : wpC M A (eval value env) (fun v s₁ => wpAny M A (eval o env) (fun ov s₂ => wpAny M A (setAttr ov attr v) (fun _ => Q .next) E s₂) E s₁) E s)
    (hs : swapsWith value (some (.Attribute o attr pos')) pos.line env = pure false := by rfl) :
    wpC M A (exec (.Assign [.Attribute o attr pos'] value pos) env) Q E s := fun Γ p hΓ hC => by
  simp only [plainObj_exec_Assign_Attribute o attr pos' value pos hs, assign_Attribute, Sem.wp_bind', Sem.wp_holding, Sem.wp_cmd_standAt, Sem.wp_release, Sem.wp_pure']
  exact Sem.wp_mono M Γ _ (fun v p₁ s₁ h₁ => Sem.wp_mono M Γ _ (fun ov _ s₂ h₂ => h₂ Γ _ hΓ) (fun _ _ _ h' => h') _ _ (h₁ Γ p₁ hΓ)) (fun _ _ _ h' => h') _ _ (h Γ _ hΓ hC)
theorem wpC_Expr {e : Expr} {pos : Pos} {Q : Flow → Shared → Prop} (h : wpC M A (eval e env) (fun v s' => v = .none ∧ Q .next s') E s)
    (hi : interactive env = false := by rfl) (hs : swapsWith e none pos.line env = pure false := by rfl) :
    wpC M A (exec (.Expr e pos) env) Q E s := by
  rw [exec_Expr env e pos hi hs]
  refine wpC_bind (wpC_standAt (wpC_bind (wpC_mono h (fun v s' h' => ?_) fun _ _ x => x)))
  obtain ⟨rfl, h'⟩ := h'
  rw [dropValue_plain (fun a e => by cases e)]
  exact wpC_pure h'
theorem wpC_Call_ {func : Expr} {args : List Expr} {pos : Pos} {Q : Value → Shared → Prop}
    (h : wpAny M A (eval func env) (fun f s₁ => wpC M A (callWith pos f [] (backTo pos (starEach args env)) []) Q E s₁) E s)
    (he : eval (.Call func args [] pos) env = (do callWith pos (← eval func env) [] (backTo pos (starEach args env)) (backToKw pos (keywordEach [] env))) := by rfl) :
    wpC M A (eval (.Call func args [] pos) env) Q E s := by
  rw [he]; exact wpC_bindA h
theorem wpC_methodCall {o : Expr} {name : Str} {apos pos : Pos} {args : List Expr} {pl : Sem Bool} {Q : Value → Shared → Prop}
    (h : wpAny M A (eval o env) (fun ov s₁ => wpAny M A (getMethod ov name pl) (fun fx s₂ => wpC M A (callWith pos fx.1 fx.2 (backTo pos (starEach args env)) []) Q E s₂) E s₁) E s)
    (he : eval (.Call (.Attribute o name apos) args [] pos) env = (do
      let ov ← eval o env
      standAt apos.atName
      let (f, first) ← holding [ov] (getMethod ov name pl)
      callWith pos f first (backTo pos (starEach args env)) (backToKw pos (keywordEach [] env))) := by rfl) :
    wpC M A (eval (.Call (.Attribute o name apos) args [] pos) env) Q E s := by
  rw [he]
  refine wpC_bindA (wpAny_mono h (fun ov s₁ h₁ => wpC_bindA (wpAny_standAt (wpC_bindA (wpAny_holding (wpAny_mono h₁ (fun fx s₂ h₂ => ?_) fun _ _ x => x))))) fun _ _ x => x)
  exact h₂
theorem wpC_callWith_of {P : Heap → Prop} {pos : Pos} {f : Value} {first : List Value} {args : List (Bool × Sem Value)} {keywords : List (Option Str × Sem Value)} {Q : Value → Shared → Prop} (hplain : (args.any (·.1) || keywords.any (·.1.isNone)) = false)
    (hk : ∀ h, P h → ∃ k, (k = Keeper.frame ∨ k = Keeper.machine ∨ k = Keeper.boundFrame) ∧ Looks M h (keeperOf f) k)
    (h : wpAny M A (evalArgs f true args keywords) (fun a s₁ => P s₁.heap ∧ wpC M A (call f (first ++ a.pos) a.kw) Q E s₁) E s) : wpC M A (callWith pos f first args keywords) Q E s := by
  unfold callWith
  refine wpC_bindA (wpAny_holding (wpAny_mono h (fun a s₁ h₁ => wpC_bindA (wpAny_standAt ?_)) fun _ _ x => x))
  obtain ⟨k, hk', L⟩ := hk _ h₁.1
  simp only [hplain]
  refine wpC_bindA (L.here ?_)
  have tail : ∀ {t : Sem Value}, wpC M A t Q E s₁ → wpC M A (t >>= fun r => holding [r] point >>= fun _ => pure r) Q E s₁ :=
    fun ht => wpC_bind (wpC_mono ht (fun r s₂ hr => wpC_bindA (wpAny_holding (wpAny_point (wpC_pure hr)))) fun _ _ x => x)
  have marked (mk : Value) : wpC M A (callMarked mk f (first ++ a.pos) a.kw) Q E s₁ := by unfold callMarked; exact fun Γ p hΓ hC => by rw [Sem.wp_keep]; exact h₁.2 Γ p hΓ hC
  rcases hk' with rfl | rfl | rfl <;> dsimp only <;> first | exact tail h₁.2 | (split <;> first | exact tail h₁.2 | exact tail (marked _))

theorem wpC_callWith_K {K : Frag} {h₀ : Heap} {pos : Pos} {f : Value} {first : List Value} {e : Expr} {rest : List Expr} {Q : Value → Shared → Prop} (_X : K.In h₀) (hk : keepIn K f = true)
    (h : wpAny M A (spliced (backTo pos (starEach (e :: rest) env))) (fun vs s₁ => K.In s₁.heap ∧ wpC M A (call f (first ++ vs)) Q E s₁) E s)
    (he : starEach (e :: rest) env = (false, eval e env) :: starEach rest env := by rfl) (hplain : (backTo pos (starEach rest env)).any (·.1) = false := by rfl) :
    wpC M A (callWith pos f first (backTo pos (starEach (e :: rest) env)) []) Q E s := by
  rw [he] at h ⊢
  exact wpC_callWith_of (by show ((false || (backTo pos (starEach rest env)).any (·.1)) || false) = false; rw [hplain]; rfl) (keeps_K hk) (evalArgs_plain h)
theorem wpC_callWith_K0 {K : Frag} {pos : Pos} {f : Value} {first : List Value} {Q : Value → Shared → Prop} (X : K.In s.heap) (hk : keepIn K f = true) (h : wpC M A (call f (first ++ [])) Q E s) : wpC M A (callWith pos f first (backTo pos (starEach [] env)) []) Q E s :=
  wpC_callWith_of rfl (keeps_K hk) (evalArgs_nil3 ⟨X, h⟩)
theorem wpC_callWith_builtin1 {pos : Pos} {id : String} {first : List Value} {e : Expr} {rest : List Expr} {Q : Value → Shared → Prop}
    (h : wpAny M A (spliced (backTo pos (starEach (e :: rest) env))) (fun vs s₁ => wpC M A (call (.builtin id) (first ++ vs)) Q E s₁) E s)
    (he : starEach (e :: rest) env = (false, eval e env) :: starEach rest env := by rfl) (hplain : (backTo pos (starEach rest env)).any (·.1) = false := by rfl) :
    wpC M A (callWith pos (.builtin id) first (backTo pos (starEach (e :: rest) env)) []) Q E s := by
  rw [he] at h ⊢
  refine wpC_callWith_of (P := fun _ => True) (by show ((false || (backTo pos (starEach rest env)).any (·.1)) || false) = false; rw [hplain]; rfl) (fun _ _ => ⟨.machine, .inr (.inl rfl), Looks.of_pure rfl⟩) (evalArgs_plain (wpAny_mono h (fun _ _ x => ⟨trivial, x⟩) fun _ _ x => x))
theorem wpC_callWith_type0 {pos : Pos} {T : String} {Q : Value → Shared → Prop} (h : wpC M A (call (.type T) []) Q E s) :
    wpC M A (callWith pos (.type T) [] (backTo pos (starEach [] env)) []) Q E s :=
  wpC_callWith_of (P := fun _ => True) rfl (fun _ _ => ⟨.machine, .inr (.inl rfl), Looks.of_pure rfl⟩) (evalArgs_nil3 ⟨trivial, h⟩)
end

section
variable {prog : Program} {w : World} {A : Around} {E : Value → Shared → Prop} {R : Result → Shared → Prop} {s : Shared}
theorem codeC_func {body : List Stmt} {env : Env}
    (h : wpC (model prog w) (A.deeper env) (execs body env) (fun f s' => R (.ok (.ret (match f with | .ret v => v | _ => .none))) s') (fun _ _ => False) s) :
    codeC (model prog w) A (.func body env) R s := by
  refine codeC_of_tree ?_
  show wpC _ (A.deeper env) (do point; match ← (execs body env).onRaise (leaving env) with | .ret v => ret v | _ => ret .none) _ _ s
  refine wpC_bindA (wpAny_point (wpC_bind (wpC_onRaise (wpC_mono h (fun f s' h' => ?_) fun _ _ h' => h'.elim))))
  cases f <;> exact wpC_pure h'
theorem codeC_call_function {a : Addr} {args : Args} {o : Obj} {fd : FuncData} {body : List Stmt} (hroom : A.depth < recursionLimit)
    (ho : s.heap.get? a = some o)
    (hd' : o.data = .func fd) (hco : fd.scope.isCoroutine = false) (hgen : fd.scope.isGenerator = false) (hbody : fd.body = .stmts body) (hcd : s.heap.CodeRec fd.code fd.qualname)
    (h : wpAny (model prog w) A.in1 (bindArgs fd args) (fun binds s₁ =>
      wpAny (model prog w) A.in1 (newFunctionEnv fd.scope fd.globals fd.closure binds (fd.qualname ++ ".<locals>.") (some a) fd.code none fd.builtins)
        (fun env s₂ => s₂.heap.NoLimit ∧ codeC (model prog w) A (.func body env) R s₂) (fun e s' => R (.error e) s') s₁) (fun e s' => R (.error e) s') s) :
    codeC (model prog w) A (.call (.ref a) args) R s := by
  refine codeC_of_tree (wpC.of ?_)
  show wpAny _ A.in1 (callAny (.ref a) args) _ _ s
  simp only [callAny]
  refine wpAny_bind (wpAny_load ho ?_)
  obtain ⟨c, oc, vs, tq, hc, hoc, hdc, hq⟩ := hcd
  simp only [hd', callFunction, hco, hgen, hbody, hc]
  rw [hc] at h
  refine wpAny_bind (m := field (.ref c) 1) (wpAny_field hoc hdc hq (wpAny_bind (wpAny_pure ?_)))
  exact wpAny_bind (wpAny_mono h (fun binds s₁ h₁ => wpAny_bind (wpAny_mono h₁ (fun env s₂ h₂ => wpAny_bind (wpAny_enterFrame h₂.1 hroom
    (wpAny_pure ⟨rfl, rfl, h₂.2⟩))) fun _ _ h' => h')) fun _ _ h' => h')
end

section
variable {prog : Program} {w : World} {A A₀ : Around} {s : Shared} {K : Frag} {L : Addr} {h₀ base : Heap} {m mg mb : Str → Option Value} {news : List (Addr × Obj)} {p : Program} {loose : List Str} {mean : ExcName → Option Value}
/-- the entry of a def, for the clean logic: the body may not raise -/
theorem codeC_def {env : Env} {outer : List Env} {R : Result → Shared → Prop} {name qual : Str} {params : Arguments} {body : List Stmt} {scope : Scope} {dV kV doc pm cdv ct oc : Value} {an od : Option Addr} {osl : Array (Option Value)} {f : Addr} {args : Args} {binds : List (Str × Value)}
    (B : Below A₀ base outer h₀) (F : Fr h₀ L s.heap m) (X₀ : K.In h₀) (N : News h₀ L s.heap news) (T : Top p loose mean mg mb h₀) (hA : A.frames = some (env :: outer)) (hf : env.frame = some L) (hke : env.scope.kind = .function)
    (ho : K.lookup f = some ⟨oc, od, .func (fnOf name qual params body scope dV kV doc pm an cdv ct), osl⟩) (hcd : codeIn K cdv qual = true) (hroom : A.depth < recursionLimit)
    (hbind : BindsTo s (fnOf name qual params body scope dV kV doc pm an cdv ct) args binds) (hloc : ∀ y ∈ binds, scope.names.lookup y.1 = some .local)
    (h : ∀ g L' h₁, Fr h₀ L g m → Fr g L' h₁ (fun y => binds.reverse.lookup y) → News g L' h₁ news → Below A base (env :: outer) g → K.In g → Top p loose mean mg mb g →
      wpC (model prog w) (A.deeper (envOf qual scope L' f cdv)) (execs body (envOf qual scope L' f cdv))
        (fun fl s' => LeaveK h₀ L m g R (match fl with | .ret v => v | _ => .none) s') (fun _ _ => False)
        { s with heap := h₁, toks := s.toks + binds.length })
    (hco : scope.isCoroutine = false) (hgen : scope.isGenerator = false) (hk : scope.kind = .function)
    (hcell : ∀ x ∈ scope.names, x.2 ≠ .cell) : codeC (model prog w) A (.call (.ref f) args) R s := by
  obtain ⟨FG, BG, st, lv⟩ := groundX (R := R) B F N hA hf hke
  have hlim := T.nolimit.keeps F.keep
  refine codeC_call_function hroom ((X₀.keeps F.keep) _ _ ho) rfl hco hgen rfl (codeRec_of (X₀.keeps F.keep) hcd) (hbind _ _ _ _ ?_)
  refine wpAny_newFunctionEnv hcell hloc (fun h₁ hns hsb => ⟨hlim.fresh _ hsb, codeC_func ?_⟩) hk
  have hk₁ : ∀ b o, s.heap.get? b = some o → h₁.get? b = some o := fun b o e => hsb.extBut b o (Nat.ne_of_lt (Heap.lt_size e)) (Heap.get?_push_of_some _ e)
  exact wpC_mono (h _ s.heap.objs.size h₁ FG ⟨hns, fun b o e => hk₁ b o (of_hideAll _ e), Nat.le_of_eq (hideAll_size _ _)⟩
    (fun p hp => ⟨hk₁ _ _ (N p hp).1, Nat.ne_of_lt (Heap.lt_size (N p hp).1), hideAll_none _ (List.mem_map_of_mem hp)⟩) BG (X₀.keeps st) (T.keeps st)) (fun fl s' hl => lv _ _ hl) fun _ _ y => y
end
end Mine


namespace Mine
section
variable {prog : Program} {w : World} {A : Around} {E : Value → Shared → Prop} {K : Frag} {C : Addr} {R : Result → Shared → Prop}
theorem codeC_call_builtin_at {s : Shared} {id : String} {args : Args} {b : Builtin} (hq : (Code.builtin id args).quiet = true) (hk : badId id = false) (hb : entryFor table id = some b)
    (h : wpAny (model prog w) A.in1 (checkBuiltinCall id args) (fun _ s₁ => wpC (model prog w) (A.under (.builtin id args)) (b args) (Fin9 (model prog w) A R) (fun e s' => R (.error e) s') s₁) (fun e s' => R (.error e) s') s) :
    codeC (model prog w) A (.call (.builtin id) args) R s := by
  have hok : okC (.builtin id args) = true := by show (!badId id) = true; rw [hk]; rfl
  refine codeC_of_tree ?_
  show wpC _ A.in1 (do checkBuiltinCall id args; again (.builtin id args)) _ _ s
  exact wpC_bindA (wpAny_mono h (fun _ s₁ h₁ => wpC_pure ⟨hq, hok, codeC_builtin hb h₁⟩) fun _ _ h' => h')
theorem make_coreC {h : Heap} {g : Array GenState} {d : Drawn} {t : Nat} {os : OsState} {rest : List Value} {kw : List (Str × Value)} {init : Value} (Y : Makes (model prog w) h C) (hi : Looks (model prog w) h (typeLookup (.ref C) "__init__") (some init))
    (hb : ∀ self, Looks (model prog w) h (bindSpecial init self) (init, [self])) (hne : (some init != some (Value.builtin "object.__init__")) = true ∨ (rest = [] ∧ kw = []))
    (hq : codeC (model prog w) (A.under (.builtin "type.__call__" ⟨.ref C :: rest, kw⟩)) (.call init ⟨.ref (h.objs.size + 1) :: rest, kw⟩) (InitBack (h.objs.size + 1) R) ⟨(h.push emptyDict).push (instObj C h.objs.size), g, d, t, os⟩) :
    codeC (model prog w) A (.call (.ref C) ⟨rest, kw⟩) R ⟨h, g, d, t, os⟩ := by
  have Y' := Y
  obtain ⟨⟨oc, od, cd, sl, hC, e1, e2, e4⟩, made, base, self, top, call, typ⟩ := Y
  refine codeC_of_tree (wpC.of ?_)
  show wpAny _ _ (callAny (.ref C) _) _ _ _
  refine nd_load hC ?_
  show wpAny _ _ (callAny.viaDunder (.ref C) _) _ _ _
  unfold callAny.viaDunder
  refine wpAny_bind (call.at ?_)
  dsimp only
  rw [tc_bind]
  refine wpAny_bind (wpAny_pure (wpAny_bind (wpAny_pure ?_)))
  refine wpAny_pure (a := Fin.again (.call (.builtin "type.__call__") ⟨.ref C :: rest, kw⟩)) ⟨rfl, rfl, ?_⟩
  refine codeC_call_builtin_at (Code.quiet_builtin _ (by decide +kernel)) (by decide +kernel) entry_typeCall (check_slot tc_kind tc_split typ (tc_args _ _ _) ?_)
  unfold Builtin.«type.__call__»
  have hm : Looks (model prog w) h (mroOf (.ref C)) cd.mro := ((Looks.ld (part := none) hC).andThen .now).andThen .now
  dsimp only
  show wpC _ _ (mroOf (.ref C) >>= _) _ _ _
  refine wpC_bindA (hm.at ?_)
  simp only [e4, Bool.false_eq_true, if_false]
  refine wpC_bindA (made.at ?_)
  dsimp only
  refine wpC_bindA (wpAny_pure ?_)
  refine wpC_bindA (wpAny_holding (wpAny_call (new_K Y' hi hne ?_)))
  have k : ∀ b o, h.get? b = some o → ((h.push emptyDict).push (instObj C h.objs.size)).get? b = some o := fun b o e => Heap.get?_push_of_some _ (Heap.get?_push_of_some _ e)
  have hx : ((h.push emptyDict).push (instObj C h.objs.size)).get? (h.objs.size + 1) = some (instObj C h.objs.size) := by heap_get
  have t1 : Looks (model prog w) ((h.push emptyDict).push (instObj C h.objs.size)) (typeOf (.ref (h.objs.size + 1))) (.ref C) := (Looks.ld hx).andThen .now
  have s1 := self.keeps k
  have i1 := hi.keeps k
  have b1 := (hb (.ref (h.objs.size + 1))).keeps k
  have is1 : Looks (model prog w) ((h.push emptyDict).push (instObj C h.objs.size)) (isInstance (.ref (h.objs.size + 1)) (.ref C)) true := t1.andThen s1
  have sp1 : Looks (model prog w) ((h.push emptyDict).push (instObj C h.objs.size)) (specialOf (.ref (h.objs.size + 1)) "__init__") (some init) := t1.andThen i1
  dsimp only
  refine wpC_bindA (is1.at ?_)
  simp only [Bool.not_true, Bool.false_eq_true, if_false]
  refine wpC_bind (wpC_holding ?_)
  unfold callSpecial?
  refine wpC_bindA (sp1.at ?_)
  dsimp only
  refine wpC_holding (wpC_bindA (b1.at ?_))
  dsimp only
  refine wpC_bind (wpC_call (codeC_mono hq fun r s' z => ?_))
  rcases r with e | (v | _ | _ | _) <;> first | exact z | exact z.elim | skip
  obtain ⟨rfl, z⟩ := z
  exact wpC_pure (wpC_pure z)

variable {x : Addr} {s : Shared} {h₀ : Heap} {L : Addr} {m : Str → Option Value} {news : List (Addr × Obj)}
theorem make_KC {rest : List Value} {kw : List (Str × Value)} {fI : Addr} (F : Fr h₀ L s.heap m) (N : News h₀ L s.heap news) (X : K.In s.heap) (hm : makesIn K C = true)
    (hi : findIn K (.ref C) "__init__" = some (some (.ref fI))) (hf : typeIn K (.ref fI) = some (.type "function"))
    (h : ∀ x dx h', Fr h₀ L h' m → News h₀ L h' ((x, instObj C dx) :: (dx, emptyDict) :: news) → (∀ p ∈ news, p.1 < dx) → dx < x →
      codeC (model prog w) (A.under (.builtin "type.__call__" ⟨.ref C :: rest, kw⟩)) (.call (.ref fI) ⟨.ref x :: rest, kw⟩) (InitBack x R) { s with heap := h' }) :
    codeC (model prog w) A (.call (.ref C) ⟨rest, kw⟩) R s := by
  obtain ⟨hh, g, d, t, os⟩ := s
  refine make_coreC (makes_of X hm) (looks_findIn X hi) (fun self => bind_fn X self hf) (.inl rfl) (h _ hh.objs.size _ ((F.push _).push _) ?_ (fun p hp => Heap.lt_size (N p hp).1) (Nat.lt_succ_self _))
  have := (N.push F emptyDict).push (F.push _) (instObj C hh.objs.size)
  rwa [Heap.size_push] at this
theorem call_clsC {pos : List Value} {kw : List (Str × Value)} {fI : Addr} {Q : Value → Shared → Prop} (F : Fr h₀ L s.heap m) (X₀ : K.In h₀) (N : News h₀ L s.heap news) (hm : makesIn K C = true) (hi : findIn K (.ref C) "__init__" = some (some (.ref fI))) (hf : isFn K (.ref fI) = true)
    (h : ∀ x dx h', Fr h₀ L h' m → News h₀ L h' ((x, instObj C dx) :: (dx, dictOf [] 0) :: news) → (∀ p ∈ news, p.1 < dx) → dx < x →
      codeC (model prog w) (A.under (.builtin "type.__call__" ⟨.ref C :: pos, kw⟩)) (.call (.ref fI) ⟨.ref x :: pos, kw⟩) (InitBack x fun r s' => match r with | .ok (.ret v) => Q v s' | .ok _ => False | .error e => E e s') { s with heap := h' }) :
    wpC (model prog w) A (call (.ref C) pos kw) Q E s := wpC_call (make_KC F N (X₀.keeps F.keep) hm hi (beq_iff_eq.mp hf) h)
end
end Mine


namespace Mine
section
variable {prog : Program} {w : World} {A : Around} {E : Value → Shared → Prop} {R : Result → Shared → Prop} {s : Shared} {env : Env}
abbrev NoE : Value → Shared → Prop := fun _ _ => False
theorem wpC_runOwn {c : Code} {Q : Flow → Shared → Prop} (hk : okC c = true)
    (hc : codeC (model prog w) A c (fun r s' => match r with | .ok f => Q f s' | .error _ => False) s) : wpC (model prog w) A (runOwn c env) Q E s := by
  unfold runOwn
  refine wpC_onRaise (wpC_mono (E := NoE) (wpC_run hk ?_) (fun _ _ x => x) fun _ _ x => x.elim)
  exact codeC_mono hc fun r s' h => by cases r <;> exact h
theorem wpC_While {test : Expr} {body orelse : List Stmt} {pos : Pos} {Q : Flow → Shared → Prop}
    (h : codeC (model prog w) A (.whileLoop test body orelse env) (fun r s' => match r with | .ok f => Q f s' | .error _ => False) s) :
    wpC (model prog w) A (exec (.While test body orelse pos) env) Q E s := by
  rw [exec_While]; exact wpC_bindA (wpAny_standAt (wpC_runOwn rfl h))
theorem whl_turnC {test : Expr} {body orelse : List Stmt}
    (h : wpAny (model prog w) A (isTrue test env (eval test env)) (fun b s₂ =>
      (b = true → wpC (model prog w) A (execs body env) (fun f s₃ => match f with
        | .next => codeC (model prog w) A (.whileLoop test body orelse env) R s₃
        | .cont => codeC (model prog w) A (.whileLoop test body orelse env) R s₃
        | .brk => R (.ok .next) s₃
        | .ret v => R (.ok (.ret v)) s₃) NoE s₂) ∧
      (b = false → wpC (model prog w) A (execs orelse env) (fun f s₃ => R (.ok f) s₃) NoE s₂)) NoE s) :
    codeC (model prog w) A (.whileLoop test body orelse env) R s := by
  refine codeC_of_tree ?_
  show wpC _ A ((whileTurn test body orelse env).onRaise (fun x => do noteFrame x env; theTreesLotGoes x)) _ _ s
  refine wpC_onRaise (wpC_mono (E := NoE) ?_ (fun _ _ x => x) fun _ _ x => x.elim)
  simp only [whileTurn]
  refine wpC_bindA (wpAny_mono h (fun b s₂ h₂ => ?_) fun _ _ x => x)
  cases b with
  | false =>
    simp only [Bool.false_eq_true, if_false]
    exact wpC_bind (wpC_mono (h₂.2 rfl) (fun f s₃ h₄ => wpC_pure h₄) fun _ _ x => x)
  | true =>
    simp only [if_true]
    refine wpC_bind (wpC_mono (h₂.1 rfl) (fun f s₃ h₄ => ?_) fun _ _ x => x)
    cases f with
    | next => exact wpC_pure ⟨rfl, rfl, h₄⟩
    | cont => exact wpC_pure ⟨rfl, rfl, h₄⟩
    | brk => exact wpC_pure h₄
    | ret v => exact wpC_pure h₄
theorem codeC_block {stmts : List Stmt} (h : wpC (model prog w) A (execs stmts env) (fun f s' => R (.ok f) s') NoE s) : codeC (model prog w) A (.block stmts env) R s := by
  refine codeC_of_tree ?_
  show wpC _ _ (do return Fin.done (← (execs stmts env).onRaise (fun x => do noteFrame x env; theTreesLotGoes x))) _ _ s
  exact wpC_bind (wpC_onRaise (wpC_mono h (fun f s' h' => wpC_pure h') fun _ _ h' => h'.elim))
theorem codeC_forLoop {target : Expr} {it : Value} {body orelse : List Stmt} (I : Nat → Shared → Prop)
    (turn : ∀ n s, I n s → wpAny (model prog w) A (pyNext it) (fun r s₁ => match r with
      | none => wpC (model prog w) A (execs orelse env) (fun f s₃ => R (.ok f) s₃) NoE s₁
      | some v => wpAny (model prog w) A (assign target env v) (fun _ s₂ => wpC (model prog w) A (execs body env) (fun f s₃ => match f with
          | .next => ∃ m, m < n ∧ I m s₃
          | .cont => ∃ m, m < n ∧ I m s₃
          | .brk => R (.ok .next) s₃
          | .ret v => R (.ok (.ret v)) s₃) NoE s₂) NoE s₁) NoE s)
    (n : Nat) (h : I n s) (ht : ∀ v, letOwnedTupleGo target it v = pure ()) : codeC (model prog w) A (.forLoop target it body orelse env) R s := by
  induction n using Nat.strongRecOn generalizing s with
  | ind n ih =>
    refine codeC_of_tree ?_
    show wpC _ _ ((forTurn target it body orelse env).onRaise (fun x => do noteFrame x env; theTreesLotGoes x)) _ _ s
    refine wpC_onRaise (wpC_mono (E := NoE) ?_ (fun _ _ x => x) fun _ _ x => x.elim)
    simp only [forTurn]
    refine wpC_bindA (wpAny_standAt (wpC_bindA (wpAny_onRaise (wpAny_mono (turn n s h) (fun r s₁ h₁ => ?_) fun _ _ h' => h'.elim))))
    cases r with
    | none => exact wpC_pure ⟨rfl, rfl, codeC_block h₁⟩
    | some v =>
      refine wpC_bindA (wpAny_of_eq (ht v) ?_)
      refine wpC_bindA (wpAny_mono h₁ (fun _ s₂ h₂ => wpC_bind (wpC_mono h₂ (fun f s₃ h₃ => ?_) fun _ _ h' => h')) fun _ _ h' => h')
      cases f with
      | next => obtain ⟨m, hm, hI⟩ := h₃; exact wpC_pure ⟨rfl, rfl, ih m hm hI⟩
      | cont => obtain ⟨m, hm, hI⟩ := h₃; exact wpC_pure ⟨rfl, rfl, ih m hm hI⟩
      | brk => exact wpC_pure h₃
      | ret v => exact wpC_pure h₃
theorem wpC_For {target iter : Expr} {body orelse : List Stmt} {pos : Pos} {Q : Flow → Shared → Prop}
    (h : wpAny (model prog w) A (eval iter env) (fun x s₁ => wpAny (model prog w) A (pyIter x) (fun it s₂ =>
      codeC (model prog w) A (.forLoop target it body orelse env) (fun r s' => match r with | .ok f => Q f s' | .error _ => False) s₂) E s₁) E s)
    (hs : ∀ x, foldedSetIterable iter env x = pure x) :
    wpC (model prog w) A (exec (.For target iter body orelse pos) env) Q E s := by
  rw [exec_For]
  exact wpC_bindA (wpAny_standAt (wpC_bindA (wpAny_mono h (fun x s₁ h₁ => wpC_bindA (wpAny_of_eq (hs x) (wpC_bindA (wpAny_standAt (wpC_bindA (wpAny_holding
    (wpAny_mono h₁ (fun it s₂ h₂ => wpC_runOwn rfl h₂) fun _ _ h' => h'))))))) fun _ _ h' => h')))

variable {h₀ : Heap} {x : Str} {px : Pos} {body : List Stmt} {Q : Flow → Shared → Prop}
/-- a for over a list of the ledger, in the clean logic, by an invariant over the frame's map and the ledger -/
theorem forC_list {l : Addr} {vs : List Value} {nn : Nat} {m₀ : Str → Option Value} {news : List (Addr × Obj)} (J : Nat → (Str → Option Value) → List (Addr × Obj) → Prop)
    (hh : A.handled = none) (F : Fr h₀ env.locals s.heap m₀) (N : News h₀ env.locals s.heap news) (hl : ∀ i m nx, J i m nx → (l, listOf vs.toArray nn) ∈ nx) (hj : J 0 m₀ news)
    (hx : env.kindOf x = some .local) (hp : (env.scope.kind == .class || (env.scope.kind == .module && env.locals != env.globals)) = false)
    (turn : ∀ i v m₁ nx h tk I o, vs[i]? = some v → J i m₁ nx → nx.map (·.1) = news.map (·.1) → OwnOff [(I, o)] (nx.map (·.1)) → Fr h₀ env.locals h (fun y => if y = x then some v else m₁ y) → News h₀ env.locals h (nx ++ [(I, o)]) →
      wpC (model prog w) A (execs body env) (fun f s₂ => f = .next ∧ ∃ h' tk' m' nx', s₂ = { s with heap := h', toks := tk' } ∧ Fr h₀ env.locals h' m' ∧ News h₀ env.locals h' (nx' ++ [(I, o)]) ∧ nx'.map (·.1) = news.map (·.1) ∧ J (i + 1) m' nx') NoE { s with heap := h, toks := tk })
    (done : ∀ m₁ nx h tk, J vs.length m₁ nx → Fr h₀ env.locals h m₁ → News h₀ env.locals h nx → Q .next { s with heap := h, toks := tk }) :
    wpAny (model prog w) A (pyIter (.ref l)) (fun it s₂ => codeC (model prog w) A (.forLoop (.Name x px) it body [] env) (fun r s' => match r with | .ok f => Q f s' | .error _ => False) s₂) E s := by
  have hml := hl _ _ _ hj
  have hls : s.heap.IsList l vs.toArray := ⟨_, (N _ hml).1, rfl, nn, rfl⟩
  refine wpAny_pyIter_list hls ?_
  have hIne : ∀ a ∈ news.map (·.1), a ≠ s.heap.objs.size := fun a ha => by
    obtain ⟨p, hp, rfl⟩ := List.mem_map.mp ha
    exact Nat.ne_of_lt (Heap.lt_size (N p hp).1)
  have hIL : s.heap.objs.size ≠ env.locals := Nat.ne_of_gt F.ns.lt
  have hI0 : h₀.get? s.heap.objs.size = none := next_is_new F
  generalize hIe : s.heap.objs.size = I at hIne hIL hI0 ⊢
  refine codeC_forLoop (fun n s' => ∃ i h tk m nx, s' = { s with heap := h, toks := tk } ∧ i ≤ vs.length ∧ n = vs.length - i ∧ h.IsListIter I l i ∧ Fr h₀ env.locals h m ∧ News h₀ env.locals h nx ∧ nx.map (·.1) = news.map (·.1) ∧ J i m nx)
    ?_ vs.length ⟨0, _, _, m₀, news, rfl, Nat.zero_le _, by omega, ⟨_, hIe ▸ Heap.get?_push_size _ rfl, rfl, rfl⟩, F.push _, (fun p hp => ⟨Heap.get?_push_of_some _ (N p hp).1, (N p hp).2⟩), rfl, hj⟩ (fun _ => rfl)
  rintro n s' ⟨i, h, tk, m, nx, rfl, hi, rfl, hit, F₁, N₁, ha, hJ⟩
  have hml₁ := hl _ _ _ hJ
  have hl₁ : h.IsList l vs.toArray := ⟨_, (N₁ _ hml₁).1, rfl, nn, rfl⟩
  cases hv : vs[i]? with
  | none =>
    have hsz : i = vs.length := Nat.le_antisymm hi (by simpa using hv)
    subst hsz
    refine wpAny_pyNext_list_end (s := { s with heap := h, toks := tk }) hh hit hl₁ (by simp) fun h' he => ?_
    refine wpC_execs_nil ?_
    refine done m nx h' tk hJ ?_ ?_
    · obtain ⟨oL, es, ep, hL, r⟩ := F₁.ns
      exact ⟨⟨oL, es, ep, he _ _ (Ne.symm hIL) hL, r⟩, fun b o e => he b o (fun q => by rw [q, hI0] at e; cases e) (F₁.keep b o e), F₁.above⟩
    · intro p hp
      exact ⟨he _ _ (hIne _ (ha ▸ List.mem_map_of_mem hp)) (N₁ p hp).1, (N₁ p hp).2⟩
  | some v =>
    have hlt : i < vs.length := (List.getElem?_eq_some_iff.mp hv).1
    refine wpAny_pyNext_list_item (s := { s with heap := h, toks := tk }) hit hl₁ (by simpa using hv) fun h' hit' hs => ?_
    have F₂ : Fr h₀ env.locals h' m := by
      obtain ⟨oL, es, ep, hL, r⟩ := F₁.ns
      exact ⟨⟨oL, es, ep, (hs.2 _ (Ne.symm hIL)).trans hL, r⟩, fun b o e => (hs.2 b (fun q => by rw [q, hI0] at e; cases e)).trans (F₁.keep b o e), F₁.above⟩
    have N₂ : News h₀ env.locals h' nx := fun p hp => ⟨(hs.2 _ (hIne _ (ha ▸ List.mem_map_of_mem hp))).trans (N₁ p hp).1, (N₁ p hp).2⟩
    obtain ⟨o, ho, hoc, hod⟩ := hit'
    refine wpAny_assign_Name ?_
    refine wpAny_storeName_local hx F₂.ns (fun h'' hn'' hs'' => ?_) hp
    have F₃ := F₂.set hn'' hs''
    have N₃ : News h₀ env.locals h'' (nx ++ [(I, o)]) := fun p hp => by
      rcases List.mem_append.mp hp with hp | hp
      · exact (N₂.set hs'') p hp
      · rw [List.mem_singleton.mp hp]
        exact ⟨(hs''.2 I hIL).trans ho, hIL, hI0⟩
    have off : OwnOff [(I, o)] (nx.map (·.1)) := fun p hp b hb => by
      rw [List.mem_singleton.mp hp]
      exact fun q => hIne b (ha ▸ hb) q.symm
    refine wpC_mono (turn i v m nx h'' (tk + 1) I o hv hJ ha off F₃ N₃) (fun f s₂ hf => ?_) fun _ _ x => x
    obtain ⟨rfl, h3, tk3, m3, nx3, rfl, F4, N4, ha4, hJ4⟩ := hf
    refine ⟨vs.length - (i + 1), by omega, i + 1, h3, tk3, m3, nx3, rfl, hlt, rfl, ⟨o, (N4 (I, o) (by simp)).1, hoc, hod⟩, F4, fun p hp => N4 p (List.mem_append.mpr (.inl hp)), ha4, hJ4⟩
end
end Mine

namespace Mine
theorem cl_caller : Cl (⟨.builtin "claim.caller" {}, none, none, [], none⟩ : PySem.Ctx) := ⟨by decide +kernel, fun _ h => nomatch h⟩
theorem thread_ends_bothC {prog : Program} {w : World} {t : Sem Fin} {s : Shared} {R : Result → Shared → Prop} (hreg : s.asleep)
    (h : wpC (model prog w) callerA t (fun fin s' => ∃ f, fin = .done f ∧ (R (.ok f) s' ∧ leftWithCleanup s'.gens = false)) (fun e s' => R (.error e) s' ∧ leftWithCleanup s'.gens = false) s) :
    ∃ n r s' s'', runN (denote table) prog w n s ⟨t, .builtin "claim.caller" {}, default, []⟩ = .halted (outcomeOf r) s' ∧
      schedN (denote table) prog w n (.single s ⟨t, .builtin "claim.caller" {}, default, []⟩) = .halted (outcomeOf r) s' ∧ s'.forget = s''.forget ∧ R r s'' := by
  have hw : Sem.wp (model prog w) ⟨.builtin "claim.caller" {}, none, none, [], none⟩ t (Sem.finPost (model prog w) ⟨.builtin "claim.caller" {}, none, none, [], none⟩ fun r s' => R r s' ∧ leftWithCleanup s'.gens = false)
      (fun e _ s' => R (.error e) s' ∧ leftWithCleanup s'.gens = false) default s := by
    refine Sem.wp_mono _ _ t (fun fin p' s' h' => ?_) (fun _ _ _ h' => h') default s (h _ default caller_in cl_caller)
    obtain ⟨f, rfl, hf⟩ := h'
    exact hf
  obtain ⟨n, r, s₁, s₂, hs, hn, hfo, hR⟩ := wp_halts_full (M := model prog w) (R := R) hreg hw
  exact ⟨n, r, s₂, s₁, hn, hs, hfo, hR⟩
theorem callFrom_of_specC {c : ClaimW} {tree : List Value → Sem Fin} {w : World} {s : Shared} {free : Addr → Prop} {gens : Prop} {kept : Heap → Prop} (hz : s.asleep) (hgens : s.gens = #[])
    (hspec : ∀ args, c.pre args = true → WData.layableAll args = true →
      ∀ ord : List DictEntry → List DictEntry, (∀ l, (ord l).Perm l) →
      ∃ vs s₁, layAllW c.records (classAt s.heap) w.params ord args s = some (vs, s₁) ∧
        wpC (model c.prog w) callerA (tree vs) (fun fin s' => ∃ f, fin = .done f ∧ (c.Ends s args vs s₁ (.ok f) s' ∧ s'.os = s.os ∧ AllBare s'.gens ∧ kept s'.heap))
          (fun e s' => c.Ends s args vs s₁ (.error e) s' ∧ s'.os = s.os ∧ AllBare s'.gens ∧ kept s'.heap) s₁) :
    c.CallFrom (fun vs => ⟨tree vs, .builtin "claim.caller" {}, default, []⟩) w free gens kept s := by
  intro args hpre hlay ord hord
  obtain ⟨vs, s₁, hlaid, hcode⟩ := hspec args hpre hlay ord hord
  have hal := layAllW_rest _ _ _ hlaid
  obtain ⟨k, r, s', s'', hrun, hsched, hfo, hcase, hos, hkp⟩ := thread_ends_bothC (prog := c.prog) (w := w) (t := tree vs) (s := s₁)
    (R := fun r s' => c.Ends s args vs s₁ r s' ∧ s'.os = s.os ∧ kept s'.heap)
    (Shared.asleep_of_life hal.2.2.2 hz)
    (wpC_mono hcode (by
      rintro fin s' ⟨f, e, h1, h2, h3, h4⟩
      exact ⟨f, e, ⟨h1, h2, h4⟩, leftWithCleanup_false_of_bare h3⟩) (by
      rintro e s' ⟨h1, h2, h3, h4⟩
      exact ⟨⟨h1, h2, h4⟩, leftWithCleanup_false_of_bare h3⟩))
  obtain ⟨eh, _, _, eo, _⟩ := Shared.forget_eq hfo
  have hcase := hcase.congr eh
  rw [← eh] at hkp
  rw [← eo] at hos
  have hlife : s'.heap.life = s.heap.life := (runN_life _ _ _ hrun).trans hal.2.2.2
  refine ⟨vs, s₁, hlaid, k, _, s', hsched, ?_, (fun _ i x hx => by rw [hgens] at hx; simp at hx), hkp, by rw [hlife], Shared.rest_eq hos⟩
  rcases hcase with ⟨v, rfl, d1, d2, d3, d4, d5⟩ | ⟨e, ob, cls, rfl, d1, d2, d3, d4, d5⟩
  · exact .inl ⟨v, rfl, d1, d2, d3, fun b o y _ => d4 b o y, d5⟩
  · exact .inr ⟨e, ob, cls, rfl, d1, d2, d3, d4, fun b o y _ => d5 b o y⟩
theorem open_anyC {r : RowW} {run : Value → List Value → Sem Value} {tree : List Value → Sem Fin} {q : Program} {loose defs kps : List Str} {writes : Bool} {Xt : Shared → Bool} {XP : (Str → Option Value) → Heap → Prop} {α : Type} {Yf : Shared → α} {Ya : World → α} {YP : World → Heap → Prop} {N : Nat}
    (left : LeftO r.prog q loose Xt Yf Ya N) (hY : ∀ w s, Yf s = Ya w → YP w s.heap) (hYk : ∀ w h h', YP w h → (∀ b o, h.get? b = some o → h'.get? b = some o) → YP w h') (hX : ∀ s, Xt s = true → XP (s.heap.nsMap mainGlobals) s.heap) (hXk : ∀ mg h h', XP mg h → (∀ b o, h.get? b = some o → h'.get? b = some o) → XP mg h')
    (hRf : ∀ s, Xt s = true → RecFacts r.records s.heap) (hwr : (!writes || r.records.isEmpty) = true) (ok : (chainsOk q && opensWell r.prog && (frees r && r.within.isEmpty)) = true) (hb : r.prog.bare) (hw : r.promised)
    (ht : ∀ vs (w : World) (s : Shared) mg f (Q : Fin → Shared → Prop) (E : Value → Shared → Prop), s.heap.Ns mainGlobals mg → mg r.name = some f → wpC (model r.prog w) callerA (run f vs) (fun v s' => Q (.done (.ret v)) s') E s → wpC (model r.prog w) callerA (tree vs) Q E s)
    (pin : ∀ w s, s.heap.isNs mainGlobals = true → Ground q loose [] XP w s (s.heap.nsMap mainGlobals) (s.heap.nsMap builtinsNs) s.heap → ∀ n ∈ defs, isTheDefsW r.prog s.heap n)
    (call : ∀ (w : World) (s₀ s₁ : Shared) (mg mb : Str → Option Value), Ground q loose r.records XP w s₀ mg mb s₁.heap → YP w s₁.heap → ∀ (args : List WData) (vs : List Value) (as : List Addr),
      r.claim.pre args = true → WData.layableAll args = true → Laid r.records w s₀ s₁ args vs as → sysModules < s₀.heap.objs.size → ∃ f, mg r.name = some f ∧
        wpC (model r.prog w) callerA (run f vs) (fun v s' => GoodWG r.claim (classAt s₀.heap) (ExcName.means s₀.heap) args s₁ (.ok (.ret v)) s')
          (fun e s' => GoodWG r.claim (classAt s₀.heap) (ExcName.means s₀.heap) args s₁ (.error e) s') s₁) : r.claim.HoldsOpenBy (fun vs => ⟨tree vs, .builtin "claim.caller" {}, default, []⟩) defs kps writes := by
  obtain ⟨ok, k5⟩ := Bool.and_eq_true_iff.mp ok
  obtain ⟨hch, o1⟩ := Bool.and_eq_true_iff.mp ok
  obtain ⟨k5, k6⟩ := Bool.and_eq_true_iff.mp k5
  obtain ⟨hsame, hu, ha, hap, hm⟩ := frees_parts k5
  refine ⟨⟨hb, o1, by show r.makers.map _ = []; rw [hm]; rfl⟩, hw.witness, fun w => ⟨(left.behind hX hch w).1, fun s' hs' => ?_⟩⟩
  obtain ⟨s₀, hf, hg0, s, hT, hz, hgens, hg, G00, y⟩ := (left.behind (XP := fun mg h => XP mg h ∧ RecFacts r.records h) (fun s hs => ⟨hX s hs, hRf s hs⟩) hch w).2 s' hs'
  have G0 : Ground q loose [] XP w s (s.heap.nsMap mainGlobals) (s.heap.nsMap builtinsNs) s.heap := ⟨G00.T, G00.B, G00.D, G00.TE, G00.TD, G00.W, G00.X.1, G00.cls, G00.has, G00.apart, G00.once, G00.K⟩
  have RF := G00.X.2
  have hT' := hT
  refine ⟨s₀, hf, hg0, s, hT, pin w s hg G0, RF.1, RF.2.1, ?_⟩
  have hgens : s.gens = #[] := Array.eq_empty_of_size_eq_zero (beq_iff_eq.mp hgens)
  have G : Ground q loose r.records XP w s _ _ s.heap := RF.ground G0
  refine callFrom_of_specC (c := r.claim) hz hgens fun args hpre hlay ord hord => ?_
  obtain ⟨⟨vs, s₁⟩, hlaid⟩ := Option.isSome_iff_exists.mp (layAllW_isSome (P := w.params) (ord := ord) G.has args r.args s (pre_splitW hpre).1)
  have keeps := layAllW_keeps _ _ _ hlaid
  have hal := layAllW_rest _ _ _ hlaid
  obtain ⟨as, hrd, hin, hold⟩ := reads_layAllW hord _ _ _ hlaid hlay s₁.heap (fun _ _ e => e)
  have L : Laid r.records w s s₁ args vs as := ⟨⟨ord, hord, hlaid⟩, hrd, hin, hold, keeps, hal.1.trans hgens, hal.2.2.1⟩
  have G₁ := G.keeps hXk keeps
  obtain ⟨f, hf, h⟩ := call w s s₁ _ _ G₁ (hYk _ _ _ (hY w s y) keeps) args vs as hpre hlay L G.low
  have hi := ident_freeW hu ha hap
  have hwi : r.claim.within = [] := List.isEmpty_iff.mp k6
  exact ⟨vs, s₁, hlaid, ht vs w s₁ _ f _ _ G₁.T.g hf (wpC_mono h (fun v s' g => ⟨_, rfl, have z := g.laid (c := r.claim) hsame hwi hi L; ⟨z.1, z.2.1, z.2.2, fun q => ⟨namesKept_of hT' hg kps keeps g.2.1.old, noTable hwr q⟩⟩⟩) fun e s' g => have z := g.laid (c := r.claim) hsame hwi hi L; ⟨z.1, z.2.1, z.2.2, fun q => ⟨namesKept_of hT' hg kps keeps g.2.1.old, noTable hwr q⟩⟩)⟩
/-- what the law's call must show: as WalkO of the layer, in the clean logic -/
abbrev WalkC (q : Program) (loose : List Str) (XP : (Str → Option Value) → Heap → Prop) (YP : World → Heap → Prop) (r : RowW) (d : DefRec) (kwd : List (Str × Expr)) (run : Value → List Value → Sem Value) : Prop :=
  ∀ (w : World) (s₀ s₁ : Shared) (mg mb : Str → Option Value), Ground q loose r.records XP w s₀ mg mb s₁.heap → YP w s₁.heap → ∀ (a : Addr) (o : Obj) (pm cd doc dV kV : Value), s₁.heap.get? a = some o →
    o.data = .func { docDef d.name d.params d.body d.scope pm cd doc with defaults := dV, kwdefaults := kV } → s₁.heap.CodeRec cd d.name → Dflts mg s₁.heap d.params kwd dV kV → mg d.name = some (.ref a) → s₁.gens = #[] →
    ∀ (args : List WData) (vals : List Value) (as : List Addr), r.claim.pre args = true → WData.layableAll args = true → ReadsAllW r.records (classAt s₀.heap) s₁.heap vals args as → WellAll w.params s₁.heap vals args → (∀ a ∈ as, (a == sysModules) = false) →
      wpC (model r.prog w) callerA (run (.ref a) vals) (fun v s' => GoodWG r.claim (classAt s₀.heap) (ExcName.means s₀.heap) args s₁ (.ok (.ret v)) s')
        (fun e s' => GoodWG r.claim (classAt s₀.heap) (ExcName.means s₀.heap) args s₁ (.error e) s') s₁
/-- the layer's head (same shape, so that its own line finds this one), with the weaker premise -/
theorem holdsC {r : OpenRow} {q : Program} {loose : List Str} {Xt : Shared → Bool} {XP : (Str → Option Value) → Heap → Prop} {α : Type} {Yf : Shared → α} {Ya : World → α} {YP : World → Heap → Prop} {d : DefRec} {kwd : List (Str × Expr)} {N : Nat}
    (left : LeftO r.prog q loose Xt Yf Ya N) (hY : ∀ w s, Yf s = Ya w → YP w s.heap) (hYk : ∀ w h h', YP w h → (∀ b o, h.get? b = some o → h'.get? b = some o) → YP w h')
    (hX : ∀ s, Xt s = true → XP (s.heap.nsMap mainGlobals) s.heap) (hXk : ∀ mg h h', XP mg h → (∀ b o, h.get? b = some o → h'.get? b = some o) → XP mg h')
    (hdef : defOf q r.name = some (d, kwd)) (hp : r.prog.theDef r.name = some (d.params, d.body, d.scope)) (hk : kwWritten? d.params.kwonlyargs d.params.kw_defaults = some kwd) (hRf : ∀ s, Xt s = true → RecFacts r.records s.heap) (hwr : (!r.writes || r.records.isEmpty) = true)
    (k1 : r.wellSaid = true) (ok : (chainsOk q && opensWell r.prog && (frees r.toRowW && r.within.isEmpty)) = true) (hb : r.prog.bare) (hw : r.toRowW.promised)
    (call : WalkC q loose XP YP r.toRowW d kwd fun f vs => PySem.call f vs) : r.Holds := by
  refine ⟨k1, hw, open_anyC (r := r.toRowW) (run := fun f vs => PySem.call f vs) (tree := fun vs => do match ← nsGet mainNs r.name with
      | some f => do ret (← PySem.call f vs)
      | none => unsupported "claim.caller:no-such-global") left hY hYk hX hXk hRf hwr ok hb hw
    (fun vs w s mg f Q E hg hf h => wpC_bindA (wpAny_nsGet hg (by rw [hf]; exact wpC_bind (wpC_mono h (fun _ _ x => wpC_pure x) fun _ _ x => x))))
    (fun w s hg G n hn => ?_) fun w s₀ s₁ mg mb G Y args vs as hpre hlay L low => ?_⟩
  · obtain rfl : n = r.name := by split at hn <;> simp_all
    exact pinned_of_view hg G hdef hp hk
  · obtain ⟨a, o, pm, cd, doc, dV, kV, h1, h2, h3, h4, h5⟩ := G.fn hdef
    exact ⟨.ref a, h1, call w s₀ s₁ mg mb G Y a o pm cd doc dV kV h2 h3 h4 h5 (defOf_name hdef ▸ h1) L.gens args vs as hpre hlay L.reads L.well (L.low low)⟩
end Mine

namespace Mine
namespace FB
theorem ba_no_bytes : typeLookup (.type "bytearray") "__bytes__" = pure none := by rw [typeLookup_type, builtinLookup_eq_fast]; kernel_rfl
theorem ba_no_index : typeLookup (.type "bytearray") "__index__" = pure none := by rw [typeLookup_type, builtinLookup_eq_fast]; kernel_rfl
theorem ba_buffer : typeLookup (.type "bytearray") "__buffer__" = pure (some (.builtin "bytearray.__buffer__")) := by rw [typeLookup_type, builtinLookup_eq_fast]; kernel_rfl
end FB
section
variable {prog : Program} {w : World} {A : Around} {E : Value → Shared → Prop} {s : Shared}
theorem slotOwn_buf {S : Addr} {Q : Bool → Shared → Prop} (hT : s.TypeIs (.ref S) "bytearray") (h : Q true s) : wpAny (model prog w) A (Builtin.Bytes.slotIsOwn (.ref S) "__buffer__") Q E s := by
  have hl := FB.ba_buffer
  have hsub := FB.ba_sub
  unfold Builtin.Bytes.slotIsOwn
  refine wpAny_bind (wpAny_specialOf hT hl ?_)
  dsimp only
  have e1 : ("bytearray.__buffer__".endsWith ("." ++ "__buffer__")) = true := by decide +kernel
  have e2 : ("bytearray.__buffer__".dropRight ("__buffer__".length + 1)) = "bytearray" := by decide +kernel
  rw [e1, e2]
  show wpAny _ _ (isInstance (.ref S) (.type "bytearray")) _ _ _
  exact wpAny_isInstance hT hsub h
theorem bytes_ba_new {S : Addr} {b : Array UInt8} {Q : Value → Shared → Prop} (hS : s.heap.get? S = some { cls := .type "bytearray", data := .bytearray b }) (hz : b.size ≤ sizeLine)
    (hQ : ∀ t k, Q (.bytes b t) { s with toks := k }) :
    codeAny (model prog w) A (.call (.builtin "bytes.__new__") ⟨[.type "bytes", .ref S], []⟩) (wants Q E) s := by
  refine codeAny_of_tree ?_
  show wpAny _ A.in1 (do checkBuiltinCall "bytes.__new__" ⟨[.type "bytes", .ref S], []⟩; again (.builtin "bytes.__new__" ⟨[.type "bytes", .ref S], []⟩)) _ _ s
  refine wpAny_bind (wpAny_of_eq (F.bm_newCall _) (wpAny_pure ⟨plainId_quiet F.bm_plain _, codeAny_builtin F.bm_entry ?_⟩))
  rw [Around.under_plainId F.bm_plain _]
  have hT : s.TypeIs (.ref S) "bytearray" := ⟨_, hS, rfl⟩
  unfold Builtin.«bytes.__new__»
  refine wpAny_bind (wpAny_of_eq (a := true) rfl ?_)
  refine bm_if_false rfl ?_
  refine wpAny_bind (wpAny_of_eq F.bm_sub ?_)
  refine bm_if_false rfl ?_
  refine wpAny_bind (wpAny_of_eq (F.bm_bind _) ?_)
  refine wpAny_bind (wpAny_of_eq (a := ()) rfl ?_)
  refine wpAny_bind (wpAny_of_eq (a := ()) rfl ?_)
  refine bm_if_false rfl ?_
  refine wpAny_bind (wpAny_specialOf hT FB.ba_no_bytes ?_)
  refine wpAny_bind (wpAny_bind ?_)
  show wpAny _ _ (load S >>= _) _ _ _
  refine wpAny_bind (wpAny_load hS ?_)
  refine wpAny_pure (wpAny_pure ?_)
  refine bm_if_false rfl ?_
  refine wpAny_bind (wpAny_specialOf hT FB.ba_no_index ?_)
  refine bm_if_true rfl ?_
  first
    | show wpAny _ _ (Builtin.Bytes.buffer? "bytes.__new__" (.ref S) true >>= _) _ _ _
    | (refine wpAny_bind ?_; show wpAny _ _ (Builtin.Bytes.buffer? "bytes.__new__" (.ref S) true >>= _) _ _ _)
  refine wpAny_bind ?_
  unfold Builtin.Bytes.buffer?
  refine wpAny_bind (wpAny_specialOf hT FB.ba_buffer ?_)
  dsimp only
  refine wpAny_bind (slotOwn_buf hT ?_)
  simp only [Bool.not_true, Bool.false_eq_true, if_false]
  refine wpAny_bind (wpAny_specialOf hT FB.ba_buffer ?_)
  (try dsimp only)
  refine wpAny_bind (slotOwn_ba hT ?_)
  simp only [Bool.false_eq_true, if_false]
  unfold Builtin.Bytes.payload Builtin.Bytes.payload?
  refine wpAny_bind (wpAny_bind (wpAny_bind (wpAny_load hS (wpAny_pure (wpAny_pure (wpAny_pure ?_))))))
  refine wpAny_bind (wpAny_rule ?_)
  refine wpAny_bind ?_
  refine wpAny_mkBytes ?_ hz
  show wpAny _ _ (if (Value.type "bytes" == Value.type "bytes") = true then _ else _) _ _ _
  refine bm_if_true (by decide) ?_
  first
    | exact wpAny_pure (hQ _ _)
    | exact wpAny_bind (wpAny_pure (wpAny_pure (hQ _ _)))
    | exact wpAny_pure (wpAny_pure (hQ _ _))
theorem call_bytes_ba {S : Addr} {b : Array UInt8} {Q : Value → Shared → Prop} (hS : s.heap.get? S = some { cls := .type "bytearray", data := .bytearray b }) (hz : b.size ≤ sizeLine)
    (hQ : ∀ t k, Q (.bytes b t) { s with toks := k }) : wpAny (model prog w) A (call (.type "bytes") [.ref S]) Q E s := by
  refine callType_codes (Q₁ := fun obj s₁ => s₁.TypeIs obj "bytes" ∧ Q obj s₁) F.bm_called (F.bm_typeCall _) F.entry_object_init
    (bytes_ba_new hS hz fun t k => ⟨PySem.W.typeIs_bytes _ _ _, hQ t k⟩) fun obj s₁ h₁ => ?_
  exact ⟨h₁.1, F.args_object_init_2 obj _, object_init_meets F.bm_called.init.lookup F.bm_called.made (by decide) prog w A.in1 _ s₁ ⟨h₁.1, rfl, h₁.2⟩⟩
end
end Mine

namespace Mine
/-- a for over range(b): an invariant over the frame's map and a ledger that may move -/
noncomputable def TurnR (h₀ : Heap) (L : Addr) (J : (Str → Option Value) → List (Addr × Obj) → Prop) (I : Addr) (o : Obj) (s : Shared) (Q : Flow → Shared → Prop) (f : Flow) (s₂ : Shared) : Prop :=
  match f with
  | .ret v => Q (.ret v) s₂
  | .brk => Q .next s₂
  | _ => ∃ h' tk' m' nx', s₂ = { s with heap := h', toks := tk' } ∧ Fr h₀ L h' m' ∧ News h₀ L h' (nx' ++ [(I, o)]) ∧ (∀ p ∈ nx', p.1 ≠ I) ∧ J m' nx'
section
variable {prog : Program} {w : World} {A : Around} {E : Value → Shared → Prop} {s : Shared} {env : Env} {h₀ : Heap} {x : Str} {body : List Stmt} {Q : Flow → Shared → Prop}
theorem forR {r : Addr} {b₀ : Int} {t₀ u₀ v₀ : Tok} {n : Nat} {m₀ : Str → Option Value} {news : List (Addr × Obj)} (J : Nat → (Str → Option Value) → List (Addr × Obj) → Prop)
    (hh : A.handled = none) (hr : IsRange s.heap r 0 b₀ 1 t₀ u₀ v₀) (hsmall : Builtin.Range.small 0 b₀ 1 = true) (hn : Builtin.Range.rangeSize 0 b₀ 1 = (n : Int)) (F : Fr h₀ env.locals s.heap m₀) (N : News h₀ env.locals s.heap news) (hj : J 0 m₀ news)
    (turn : ∀ i t m₁ nx h tk I o, i < n → J i m₁ nx → (∀ p ∈ news, @LT.lt Nat _ p.1 I) → (∀ p ∈ nx, p.1 ≠ I) → Fr h₀ env.locals h (fun y => if y = x then some (.int (i : Int) t) else m₁ y) → News h₀ env.locals h (nx ++ [(I, o)]) →
      wpAny (model prog w) A (execs body env) (TurnR h₀ env.locals (J (i + 1)) I o { s with heap := h, toks := tk } Q) E { s with heap := h, toks := tk })
    (done : ∀ m₁ nx h tk, J n m₁ nx → Fr h₀ env.locals h m₁ → News h₀ env.locals h nx → Q .next { s with heap := h, toks := tk }) :
    wpAny (model prog w) A (pyIter (.ref r)) (fun it s₂ => LoopAtV prog w A h₀ env x body Q E it s₂) E s := by
  refine wpAny_pyIter_range hr hsmall ?_
  have W : Walks prog w A s.heap.objs.size [s.heap.objs.size] [s.heap.objs.size] n (fun i v => i < n ∧ ∃ t, v = .int (0 + i * 1) t)
      (fun i h => IsRangeIter h s.heap.objs.size (0 + (i : Nat) * 1) ((n : Int) - (i : Nat)) 1) := (Walks.range hh _ 0 1 n).bound
  have hI0 : h₀.get? s.heap.objs.size = none := next_is_new F
  refine ⟨s.heap.objs.size, _, _, n, _, _, m₀, news, J, rfl, W, ?_, ?_, ?_, (by show IsRangeIter _ _ _ _ _; rw [hn]; simpa using Heap.get?_push_size _ rfl), F.push _, (fun p hp => ⟨Heap.get?_push_of_some _ (N p hp).1, (N p hp).2⟩), hj, ?_, ?_⟩
  · intro hm
    exact absurd F.ns.lt ((List.mem_singleton.mp hm) ▸ Nat.lt_irrefl _)
  · intro b hb
    rw [List.mem_singleton.mp hb]
    exact hI0
  · intro p hp hI
    exact absurd (Heap.lt_size (N p hp).1) ((List.mem_singleton.mp hI) ▸ Nat.lt_irrefl _)
  · rintro i v m₁ nx s₁ own ⟨h, tk, rfl⟩ hin ⟨_, t, rfl⟩ hJ hoff hown hget hall hst F₁ N₁
    have e1 : (0 : Int) + (i : Int) * 1 = (i : Int) := by omega
    rw [e1] at F₁
    obtain ⟨o, ho⟩ : ∃ o, h.get? s.heap.objs.size = some o := ⟨_, hst⟩
    have hio := hall _ (.head _) hI0 o ho
    have hne : ∀ p ∈ nx, p.1 ≠ s.heap.objs.size := fun p hp e => hoff p hp (List.mem_singleton.mpr e)
    refine wpAny_mono (turn i t m₁ nx h tk s.heap.objs.size o hin hJ (fun p hp => Heap.lt_size (N p hp).1) hne F₁ fun p hp => ?_) (fun f s₂ q => ?_) fun _ _ e => e
    · rcases List.mem_append.mp hp with hp | hp
      · exact N₁ p (List.mem_append.mpr (.inr hp))
      · rw [List.mem_singleton.mp hp]
        exact N₁ _ (List.mem_append.mpr (.inl hio))
    · have fin : (∃ h' tk' m' nx', s₂ = { s with heap := h', toks := tk' } ∧ Fr h₀ env.locals h' m' ∧ News h₀ env.locals h' (nx' ++ [(s.heap.objs.size, o)]) ∧ (∀ p ∈ nx', p.1 ≠ s.heap.objs.size) ∧ J (i + 1) m' nx') →
          LoopStepU h₀ env.locals [s.heap.objs.size] own (J (i + 1)) { s with heap := h, toks := tk } .next s₂ := by
        rintro ⟨h', tk', m', nx', e, F', N', hn', hJ'⟩
        refine ⟨rfl, h', tk', m', nx', e, F', fun p hp => ?_, fun p hp hq => hn' p hp (List.mem_singleton.mp hq), hJ'⟩
        rcases List.mem_append.mp hp with hp | hp
        · have e1 := List.mem_singleton.mp (hown p hp)
          have e2 := hget p hp
          have e3 : p = (s.heap.objs.size, o) := by
            obtain ⟨a, q⟩ := p
            dsimp only at e1 e2
            subst e1
            rw [show h.get? s.heap.objs.size = some o from ho] at e2
            cases e2
            rfl
          rw [e3]
          exact N' _ (List.mem_append.mpr (.inr (.head _)))
        · exact N' p (List.mem_append.mpr (.inl hp))
      cases f with
      | ret v => exact .ret q
      | brk => exact .brk q
      | next => exact .next (fin q)
      | cont => exact .cont (fin q)
  · rintro h' tk m' news' F' N' _ hJ
    exact done m' news' h' tk hJ F' N'
end
end Mine
namespace Mine
theorem for_inv {prog : Program} {w : World} {A : Around} {E : Value → Shared → Prop} {s : Shared} {h₀ : Heap} {env : Env} {x : Str} {body : List Stmt} {Q : Flow → Shared → Prop} {m : Str → Option Value} {px pos : Pos} {iter : Expr}
    (_F : Fr h₀ env.locals s.heap m) (hx : env.kindOf x = some .local) (hp : (env.scope.kind == .class || (env.scope.kind == .module && env.locals != env.globals)) = false)
    (h : wpAny (model prog w) A (eval iter env) (fun xv s₁ => wpAny (model prog w) A (pyIter xv) (fun it s₂ => LoopAtV prog w A h₀ env x body Q E it s₂) E s₁) E s)
    (hs : ∀ x, foldedSetIterable iter env x = pure x)
    (hE : PassesOwn (model prog w) A env E) :
    wpAny (model prog w) A (exec (.For (.Name x px) iter body [] pos) env) Q E s := For_invV h₀ hx hp h hs hE
theorem passes_no {prog : Program} {w : World} {A : Around} {env : Env} : PassesOwn (model prog w) A env fun _ _ => False := by
  first | passes_own | with_unfolding_all passes_own
end Mine

namespace Mine
noncomputable def vw : Program := view PySem.Challenge.rw_og0144_01.row.prog [0, 2, 3, 5, 6, 7, 8, 9, 11, 12, 13, 14, 15, 16, 18, 19]
noncomputable abbrev pg : Program := PySem.Challenge.rw_og0144_01.row.toRowW.1
noncomputable def oA : Obj := { cls := .type "tuple", data := .seq #[] }
noncomputable def oB : Obj := { cls := .none, data := .fields #[] }
noncomputable def oC : Obj := { cls := .type "code", data := .fields #[.str (Str.ofString "<module>") 182, .str (Str.ofString "<module>") 183, .str (Str.ofString "/claim/cut.py") 184, .int 1 0, .int 0 0, .int 0 0, .int 0 0, .int 0 0, .ref 11, .bool false, .int 181 0, .ref 12, .none, .none, .none, .none, .int 185 0, .int 1 0, .str (Str.ofString "/claim/cut.py") 186] }
noncomputable def oD : Obj := { cls := .type "frame", slots := #[some (.ref 13), some (.ref 3), some (.ref 3), none, some (.str (Str.ofString "__main__") 164), none, some (.ref 0)] }
noncomputable def tr0 (P : Params) : BT :=
  .node (boot_o_0 P)
    (.node (boot_o_1 P) (.node (boot_o_3 P) (.node (boot_o_7 P) .nil .nil) (.node oA .nil .nil)) (.node (boot_o_5 P) (.node (boot_o_9 P) .nil .nil) (.node oC .nil .nil)))
    (.node (boot_o_2 P) (.node (boot_o_4 P) (.node (boot_o_8 P) .nil .nil) (.node oB .nil .nil)) (.node (boot_o_6 P) (.node (boot_o_10 P) .nil .nil) (.node oD .nil .nil)))
noncomputable def hp0 (P : Params) : Heap := { objs := ⟨[boot_o_0 P, boot_o_1 P, boot_o_2 P, boot_o_3 P, boot_o_4 P, boot_o_5 P, boot_o_6 P, boot_o_7 P, boot_o_8 P, boot_o_9 P, boot_o_10 P, oA, oB, oC, oD]⟩ }
noncomputable def ev0 : Env := { scope := pg.main.scope, locals := mainNs, globals := mainNs, cells := [], code := .ref 13, frame := some 14 }
noncomputable abbrev cd0 : Code := .body (behindTheImports pg) ev0
abbrev ps0 : Pos := { line := 0, col := 0, endLine := 0, endCol := 0 }
theorem go0 (w : World) (os : OsState) : topGo treeTable pg w 11 (some (.ref 6)) 12 ⟨boot_heap w.params, #[], boot_drawn, boot_toks, os⟩ (topStub pg) = some (⟨hp0 w.params, #[], {}, 187, os⟩, ⟨denote treeTable cd0, cd0, ps0, [topFrame ps0]⟩) := by kernel_rfl
theorem blk0 (w : World) (os : OsState) : segRun treeTable pg w 11 (some (.ref 6)) 1 1 ⟨hp0 w.params, #[], {}, 187, os⟩ (blockOf (behindTheImports pg) ev0 cd0 ps0 [topFrame ps0]) = some (.next, (⟨tr0 w.params, 15, {}, #[], {}, 187, os⟩ : SharedT).abs, cd0, ps0) := by kernel_rfl
theorem op0 (w : World) : (fencedOpening treeTable pg w 4038).map (fun s => (s.heap, s.gens, s.drawn, s.toks)) = some (boot_heap w.params, Array.mk [], boot_drawn, boot_toks) :=
  boot_open (p := pg) (by kernel_rfl) (by decide) (fun s => by kernel_rfl) w
theorem sz0 (w : World) : ((boot_heap w.params).isNs mainGlobals && (Array.mk [] : Array GenState).size == 0, (boot_heap w.params).objs.size, (boot_heap w.params).nsMap mainGlobals "__annotations__") = (true, 11, some (.ref 6)) := by kernel_rfl
noncomputable def sAt (i : Nat) : Stmt := ((behindTheImports pg)[i]?).getD (.Pass ps0)
noncomputable def inC (s : Stmt) (j : Nat) : Stmt := match s with
  | .ClassDef _ _ _ b _ _ _ _ _ _ _ => (b[j]?).getD (.Pass ps0)
  | _ => .Pass ps0
noncomputable def fdP (s : Stmt) : Arguments := match s with
  | .FunctionDef _ a _ _ _ _ _ _ _ _ => a
  | _ => { posonlyargs := [], args := [], vararg := none, kwonlyargs := [], kw_defaults := [], kwarg := none, defaults := [] }
noncomputable def fdB (s : Stmt) : List Stmt := match s with
  | .FunctionDef _ _ b _ _ _ _ _ _ _ => b
  | _ => []
noncomputable def fdS (s : Stmt) : Scope := match s with
  | .FunctionDef _ _ _ _ _ _ c _ _ _ => c
  | _ => pg.main.scope
noncomputable def ob87 (P : Params) : Obj := { cls := Value.type "dict", data := Data.dict #[{ hash := PyData.keyHash P (Str.ofString "__name__"), key := Value.str (Str.ofString "__name__") 165, val := Value.str (Str.ofString "paperhold.bits") 252 }, { hash := PyData.keyHash P (Str.ofString "__doc__"), key := Value.str (Str.ofString "__doc__") 166, val := Value.none }, { hash := PyData.keyHash P (Str.ofString "__package__"), key := Value.str (Str.ofString "__package__") 167, val := Value.none }, { hash := PyData.keyHash P (Str.ofString "__loader__"), key := Value.str (Str.ofString "__loader__") 168, val := Value.builtin "__main__.__loader__#opaque" }, { hash := PyData.keyHash P (Str.ofString "__spec__"), key := Value.str (Str.ofString "__spec__") 169, val := Value.none }, { hash := PyData.keyHash P (Str.ofString "__annotations__"), key := Value.str (Str.ofString "__annotations__") 170, val := Value.ref 6 }, { hash := PyData.keyHash P (Str.ofString "__builtins__"), key := Value.str (Str.ofString "__builtins__") 171, val := Value.ref 4 }, { hash := PyData.keyHash P (Str.ofString "__file__"), key := Value.str (Str.ofString "__file__") 173, val := Value.str (Str.ofString "/claim/cut.py") 172 }, { hash := PyData.keyHash P (Str.ofString "__cached__"), key := Value.str (Str.ofString "__cached__") 174, val := Value.none }, { hash := PyData.keyHash P (Str.ofString "_wall"), key := Value.str (Str.ofString "_wall") 193, val := Value.ref 21 }, { hash := PyData.keyHash P (Str.ofString "PaperError"), key := Value.str (Str.ofString "PaperError") 235, val := Value.ref 46 }, { hash := PyData.keyHash P (Str.ofString "FilterFault"), key := Value.str (Str.ofString "FilterFault") 251, val := Value.ref 59 }, { hash := PyData.keyHash P (Str.ofString "OCTET"), key := Value.str (Str.ofString "OCTET") 255, val := Value.int 8 254 }, { hash := PyData.keyHash P (Str.ofString "low_bits"), key := Value.str (Str.ofString "low_bits") 263, val := Value.ref 68 }, { hash := PyData.keyHash P (Str.ofString "check_fit"), key := Value.str (Str.ofString "check_fit") 271, val := Value.ref 75 }] 15 }
noncomputable def ob52 (P : Params) : Obj := { cls := Value.type "tuple", data := Data.seq #[] }
noncomputable def ob68 (P : Params) : Obj := { cls := Value.none, data := Data.fields #[] }
noncomputable def ob103 (P : Params) : Obj := { cls := Value.none, data := Data.fields #[] }
noncomputable def ob84 (P : Params) : Obj := { cls := Value.type "getset_descriptor", data := Data.fields #[Value.str (Str.ofString "__weakref__") 229, Value.ref 46, Value.builtin "ExceptionGroup.__weakref__", Value.none] }
noncomputable def ob60 (P : Params) : Obj := { cls := Value.type "builtin_function_or_method", data := Data.fields #[Value.builtin "type.__prepare__", Value.type "type"] }
noncomputable def ob76 (P : Params) : Obj := { cls := Value.type "tuple", data := Data.seq #[Value.str (Str.ofString "self") 222] }
noncomputable def ob111 (P : Params) : Obj := { cls := Value.type "tuple", data := Data.seq #[Value.str (Str.ofString "value") 267, Value.str (Str.ofString "count") 268] }
noncomputable def ob95 (P : Params) : Obj := { cls := Value.type "code", data := Data.fields #[Value.str (Str.ofString "FilterFault") 238, Value.str (Str.ofString "FilterFault") 239, Value.str (Str.ofString "/claim/cut.py") 240, Value.int 14 0, Value.int 0 0, Value.int 0 0, Value.int 0 0, Value.int 0 0, Value.ref 53, Value.bool false, Value.int 181 0, Value.ref 54, Value.none, Value.none, Value.none, Value.none, Value.int 241 0, Value.int 14 0, Value.str (Str.ofString "/claim/cut.py") 242] }
noncomputable def ob43 (P : Params) : Obj := { cls := Value.type "tuple", data := Data.seq #[] }
noncomputable def ob56 (P : Params) : Obj := { cls := Value.none, data := Data.func (FuncData.mk (Str.ofString "_wall") (Str.ofString "_wall") (fdP (sAt 0)) (.stmts (fdB (sAt 0))) (fdS (sAt 0)) (0) ([]) (Value.none) (Value.none) (Value.none) (Value.none) (none) (Value.none) (Value.none) (0)) }
noncomputable def ob72 (P : Params) : Obj := { cls := Value.type "code", data := Data.fields #[Value.str (Str.ofString "__init__") 210, Value.str (Str.ofString "PaperError.__init__") 211, Value.str (Str.ofString "/claim/cut.py") 212, Value.int 7 0, Value.int 3 0, Value.int 0 0, Value.int 0 0, Value.int 3 0, Value.ref 30, Value.bool true, Value.int 181 0, Value.ref 31, Value.none, Value.ref 32, Value.ref 33, Value.ref 34, Value.int 216 0, Value.int 7 0, Value.str (Str.ofString "/claim/cut.py") 217] }
noncomputable def ob107 (P : Params) : Obj := { cls := Value.type "code", data := Data.fields #[Value.str (Str.ofString "low_bits") 256, Value.str (Str.ofString "low_bits") 257, Value.str (Str.ofString "/claim/cut.py") 258, Value.int 18 0, Value.int 2 0, Value.int 0 0, Value.int 0 0, Value.int 3 0, Value.ref 62, Value.bool true, Value.int 181 0, Value.ref 63, Value.none, Value.ref 64, Value.ref 65, Value.ref 66, Value.int 261 0, Value.int 18 0, Value.str (Str.ofString "/claim/cut.py") 262] }
noncomputable def ob91 (P : Params) : Obj := { cls := Value.type "builtin_function_or_method", data := Data.fields #[Value.builtin "type.__prepare__", Value.type "type"] }
noncomputable def ob64 (P : Params) : Obj := { cls := Value.type "code", data := Data.fields #[Value.str (Str.ofString "PaperError") 198, Value.str (Str.ofString "PaperError") 199, Value.str (Str.ofString "/claim/cut.py") 200, Value.int 5 0, Value.int 0 0, Value.int 0 0, Value.int 0 0, Value.int 0 0, Value.ref 25, Value.bool false, Value.int 181 0, Value.ref 26, Value.none, Value.none, Value.none, Value.none, Value.int 201 0, Value.int 5 0, Value.str (Str.ofString "/claim/cut.py") 202] }
noncomputable def ob80 (P : Params) : Obj := { cls := Value.type "function", data := Data.func (FuncData.mk (Str.ofString "told") (Str.ofString "PaperError.told") (fdP (inC (sAt 2) 1)) (.stmts (fdB (inC (sAt 2) 1))) (fdS (inC (sAt 2) 1)) (3) ([]) (Value.none) (Value.none) (Value.none) (Value.str (Str.ofString "paperhold.errors") 194) (none) (Value.ref 42) (Value.none) (0)) }
noncomputable def ob115 (P : Params) : Obj := { cls := Value.type "function", data := Data.func (FuncData.mk (Str.ofString "check_fit") (Str.ofString "check_fit") (fdP (sAt 7)) (.stmts (fdB (sAt 7))) (fdS (sAt 7)) (3) ([]) (Value.none) (Value.none) (Value.none) (Value.str (Str.ofString "paperhold.bits") 252) (none) (Value.ref 74) (Value.none) (0)) }
noncomputable def ob99 (P : Params) : Obj := { cls := Value.type "type", data := Data.cls { name := Str.ofString "FilterFault", bases := [Value.ref 46], mro := [Value.ref 59, Value.ref 46, Value.type "Exception", Value.type "BaseException", Value.type "object"], ns := 58, qualname := Str.ofString "FilterFault" }, slots := #[some (Value.ref 50), none, some (Value.str (Str.ofString "FilterFault") 236), some (Value.str (Str.ofString "FilterFault") 244), some (Value.builtin "Exception.__new__"), some (Value.bool true)] }
noncomputable def ob54 (P : Params) : Obj := { cls := Value.type "tuple", data := Data.seq #[Value.str (Str.ofString "k") 190] }
noncomputable def ob70 (P : Params) : Obj := { cls := Value.type "tuple", data := Data.seq #[] }
noncomputable def ob105 (P : Params) : Obj := { cls := Value.type "tuple", data := Data.seq #[] }
noncomputable def ob86 (P : Params) : Obj := { cls := Value.type "builtin_function_or_method", data := Data.fields #[Value.builtin "object.__init_subclass__", Value.ref 46] }
noncomputable def ob62 (P : Params) : Obj := { cls := Value.type "tuple", data := Data.seq #[] }
noncomputable def ob78 (P : Params) : Obj := { cls := Value.none, data := Data.func (FuncData.mk (Str.ofString "told") (Str.ofString "PaperError.told") (fdP (inC (sAt 2) 1)) (.stmts (fdB (inC (sAt 2) 1))) (fdS (inC (sAt 2) 1)) (0) ([]) (Value.none) (Value.none) (Value.none) (Value.none) (none) (Value.none) (Value.none) (0)) }
noncomputable def ob113 (P : Params) : Obj := { cls := Value.none, data := Data.func (FuncData.mk (Str.ofString "check_fit") (Str.ofString "check_fit") (fdP (sAt 7)) (.stmts (fdB (sAt 7))) (fdS (sAt 7)) (0) ([]) (Value.none) (Value.none) (Value.none) (Value.none) (none) (Value.none) (Value.none) (0)) }
noncomputable def ob97 (P : Params) : Obj := { cls := Value.type "tuple", data := Data.seq #[] }
noncomputable def ob45 (P : Params) : Obj := { cls := Value.type "code", data := Data.fields #[Value.str (Str.ofString "<module>") 182, Value.str (Str.ofString "<module>") 183, Value.str (Str.ofString "/claim/cut.py") 184, Value.int 1 0, Value.int 0 0, Value.int 0 0, Value.int 0 0, Value.int 0 0, Value.ref 11, Value.bool false, Value.int 181 0, Value.ref 12, Value.none, Value.none, Value.none, Value.none, Value.int 185 0, Value.int 1 0, Value.str (Str.ofString "/claim/cut.py") 186] }
noncomputable def ob58 (P : Params) : Obj := { cls := Value.type "function", data := Data.func (FuncData.mk (Str.ofString "_wall") (Str.ofString "_wall") (fdP (sAt 0)) (.stmts (fdB (sAt 0))) (fdS (sAt 0)) (3) ([]) (Value.none) (Value.none) (Value.none) (Value.str (Str.ofString "__main__") 164) (none) (Value.ref 20) (Value.none) (0)) }
noncomputable def ob74 (P : Params) : Obj := { cls := Value.type "tuple", data := Data.seq #[] }
noncomputable def ob109 (P : Params) : Obj := { cls := Value.type "tuple", data := Data.seq #[] }
noncomputable def ob93 (P : Params) : Obj := { cls := Value.type "tuple", data := Data.seq #[] }
noncomputable def ob66 (P : Params) : Obj := { cls := Value.type "tuple", data := Data.seq #[Value.int (-1) 209] }
noncomputable def ob82 (P : Params) : Obj := { cls := Value.type "dict", data := Data.dict #[{ hash := PyData.keyHash P (Str.ofString "__module__"), key := Value.str (Str.ofString "__module__") 203, val := Value.str (Str.ofString "paperhold.errors") 194 }, { hash := PyData.keyHash P (Str.ofString "__firstlineno__"), key := Value.str (Str.ofString "__firstlineno__") 207, val := Value.int 5 206 }, { hash := PyData.keyHash P (Str.ofString "__init__"), key := Value.str (Str.ofString "__init__") 218, val := Value.ref 36 }, { hash := PyData.keyHash P (Str.ofString "told"), key := Value.str (Str.ofString "told") 225, val := Value.ref 43 }, { hash := PyData.keyHash P (Str.ofString "__static_attributes__"), key := Value.str (Str.ofString "__static_attributes__") 228, val := Value.ref 44 }, { hash := PyData.keyHash P (Str.ofString "__weakref__"), key := Value.str (Str.ofString "__weakref__") 230, val := Value.ref 47 }, { hash := PyData.keyHash P (Str.ofString "__doc__"), key := Value.str (Str.ofString "__doc__") 231, val := Value.none }] 3 }
noncomputable def ob101 (P : Params) : Obj := { cls := Value.type "builtin_function_or_method", data := Data.fields #[Value.builtin "object.__init_subclass__", Value.ref 59] }
noncomputable def ob49 (P : Params) : Obj := { cls := Value.none, data := Data.dict #[{ hash := PyData.keyHash P (Str.ofString "type.__subclasses__.Exception.0"), key := Value.str (Str.ofString "type.__subclasses__.Exception.0") 232, val := Value.int 46 0 }, { hash := PyData.keyHash P (Str.ofString "type.__subclasses__.Exception.n"), key := Value.str (Str.ofString "type.__subclasses__.Exception.n") 233, val := Value.int 1 0 }] 2 }
noncomputable def ob53 (P : Params) : Obj := { cls := Value.none, data := Data.fields #[] }
noncomputable def ob69 (P : Params) : Obj := { cls := Value.type "tuple", data := Data.seq #[Value.str (Str.ofString "self") 213, Value.str (Str.ofString "what") 214, Value.str (Str.ofString "at") 215] }
noncomputable def ob104 (P : Params) : Obj := { cls := Value.type "tuple", data := Data.seq #[Value.str (Str.ofString "value") 259, Value.str (Str.ofString "count") 260] }
noncomputable def ob85 (P : Params) : Obj := { cls := Value.type "super", data := Data.fields #[Value.ref 46, Value.ref 46, Value.ref 46] }
noncomputable def ob61 (P : Params) : Obj := { cls := Value.type "dict", data := Data.dict #[{ hash := PyData.keyHash P (Str.ofString "__module__"), key := Value.str (Str.ofString "__module__") 203, val := Value.str (Str.ofString "paperhold.errors") 194 }, { hash := PyData.keyHash P (Str.ofString "__qualname__"), key := Value.str (Str.ofString "__qualname__") 205, val := Value.str (Str.ofString "PaperError") 204 }, { hash := PyData.keyHash P (Str.ofString "__firstlineno__"), key := Value.str (Str.ofString "__firstlineno__") 207, val := Value.int 5 206 }, { hash := PyData.keyHash P (Str.ofString "__init__"), key := Value.str (Str.ofString "__init__") 218, val := Value.ref 36 }, { hash := PyData.keyHash P (Str.ofString "told"), key := Value.str (Str.ofString "told") 225, val := Value.ref 43 }, { hash := PyData.keyHash P (Str.ofString "__static_attributes__"), key := Value.str (Str.ofString "__static_attributes__") 228, val := Value.ref 44 }] 6 }
noncomputable def ob77 (P : Params) : Obj := { cls := Value.type "tuple", data := Data.seq #[] }
noncomputable def ob112 (P : Params) : Obj := { cls := Value.type "tuple", data := Data.seq #[] }
noncomputable def ob96 (P : Params) : Obj := { cls := Value.type "frame", slots := #[some (Value.ref 55), some (Value.ref 3), some (Value.ref 52), none, some (Value.str (Str.ofString "paperhold.errors") 194), none, some (Value.ref 0)] }
noncomputable def ob88 (P : Params) : Obj := { cls := Value.none, data := Data.fields #[Value.int 1 0, Value.int 0 0, Value.ref 20, Value.int 5 0, Value.int 0 0, Value.ref 27, Value.int 14 0, Value.int 0 0, Value.ref 55, Value.int 18 0, Value.int 0 0, Value.ref 67, Value.int 20 0, Value.int 0 0, Value.ref 74] }
noncomputable def ob57 (P : Params) : Obj := { cls := Value.type "code", data := Data.fields #[Value.str (Str.ofString "_wall") 187, Value.str (Str.ofString "_wall") 188, Value.str (Str.ofString "/claim/cut.py") 189, Value.int 1 0, Value.int 1 0, Value.int 0 0, Value.int 0 0, Value.int 3 0, Value.ref 15, Value.bool true, Value.int 181 0, Value.ref 16, Value.none, Value.ref 17, Value.ref 18, Value.ref 19, Value.int 191 0, Value.int 1 0, Value.str (Str.ofString "/claim/cut.py") 192] }
noncomputable def ob73 (P : Params) : Obj := { cls := Value.type "function", data := Data.func (FuncData.mk (Str.ofString "__init__") (Str.ofString "PaperError.__init__") (fdP (inC (sAt 2) 0)) (.stmts (fdB (inC (sAt 2) 0))) (fdS (inC (sAt 2) 0)) (3) ([]) (Value.ref 29) (Value.none) (Value.none) (Value.str (Str.ofString "paperhold.errors") 194) (none) (Value.ref 35) (Value.none) (0)) }
noncomputable def ob108 (P : Params) : Obj := { cls := Value.type "function", data := Data.func (FuncData.mk (Str.ofString "low_bits") (Str.ofString "low_bits") (fdP (sAt 6)) (.stmts (fdB (sAt 6))) (fdS (sAt 6)) (3) ([]) (Value.none) (Value.none) (Value.none) (Value.str (Str.ofString "paperhold.bits") 252) (none) (Value.ref 67) (Value.none) (0)) }
noncomputable def ob92 (P : Params) : Obj := { cls := Value.type "dict", data := Data.dict #[{ hash := PyData.keyHash P (Str.ofString "__module__"), key := Value.str (Str.ofString "__module__") 243, val := Value.str (Str.ofString "paperhold.errors") 194 }, { hash := PyData.keyHash P (Str.ofString "__qualname__"), key := Value.str (Str.ofString "__qualname__") 245, val := Value.str (Str.ofString "FilterFault") 244 }, { hash := PyData.keyHash P (Str.ofString "__firstlineno__"), key := Value.str (Str.ofString "__firstlineno__") 247, val := Value.int 14 246 }, { hash := PyData.keyHash P (Str.ofString "__static_attributes__"), key := Value.str (Str.ofString "__static_attributes__") 248, val := Value.ref 57 }] 4 }
noncomputable def ob65 (P : Params) : Obj := { cls := Value.type "frame", slots := #[some (Value.ref 27), some (Value.ref 3), some (Value.ref 24), none, some (Value.str (Str.ofString "paperhold.errors") 194), none, some (Value.ref 0)] }
noncomputable def ob81 (P : Params) : Obj := { cls := Value.type "tuple", data := Data.seq #[Value.str (Str.ofString "at") 226, Value.str (Str.ofString "what") 227] }
noncomputable def ob100 (P : Params) : Obj := { cls := Value.type "super", data := Data.fields #[Value.ref 59, Value.ref 59, Value.ref 59] }
noncomputable def ob55 (P : Params) : Obj := { cls := Value.type "tuple", data := Data.seq #[] }
noncomputable def ob71 (P : Params) : Obj := { cls := Value.none, data := Data.func (FuncData.mk (Str.ofString "__init__") (Str.ofString "PaperError.__init__") (fdP (inC (sAt 2) 0)) (.stmts (fdB (inC (sAt 2) 0))) (fdS (inC (sAt 2) 0)) (0) ([]) (Value.none) (Value.none) (Value.none) (Value.none) (none) (Value.none) (Value.none) (0)) }
noncomputable def ob106 (P : Params) : Obj := { cls := Value.none, data := Data.func (FuncData.mk (Str.ofString "low_bits") (Str.ofString "low_bits") (fdP (sAt 6)) (.stmts (fdB (sAt 6))) (fdS (sAt 6)) (0) ([]) (Value.none) (Value.none) (Value.none) (Value.none) (none) (Value.none) (Value.none) (0)) }
noncomputable def ob90 (P : Params) : Obj := { cls := Value.type "tuple", data := Data.seq #[Value.ref 46] }
noncomputable def ob63 (P : Params) : Obj := { cls := Value.none, data := Data.fields #[Value.int 7 0, Value.int 4 0, Value.ref 35, Value.int 12 0, Value.int 4 0, Value.ref 42] }
noncomputable def ob79 (P : Params) : Obj := { cls := Value.type "code", data := Data.fields #[Value.str (Str.ofString "told") 219, Value.str (Str.ofString "PaperError.told") 220, Value.str (Str.ofString "/claim/cut.py") 221, Value.int 12 0, Value.int 1 0, Value.int 0 0, Value.int 0 0, Value.int 3 0, Value.ref 37, Value.bool true, Value.int 181 0, Value.ref 38, Value.none, Value.ref 39, Value.ref 40, Value.ref 41, Value.int 223 0, Value.int 12 0, Value.str (Str.ofString "/claim/cut.py") 224] }
noncomputable def ob114 (P : Params) : Obj := { cls := Value.type "code", data := Data.fields #[Value.str (Str.ofString "check_fit") 264, Value.str (Str.ofString "check_fit") 265, Value.str (Str.ofString "/claim/cut.py") 266, Value.int 20 0, Value.int 2 0, Value.int 0 0, Value.int 0 0, Value.int 3 0, Value.ref 69, Value.bool true, Value.int 181 0, Value.ref 70, Value.none, Value.ref 71, Value.ref 72, Value.ref 73, Value.int 269 0, Value.int 20 0, Value.str (Str.ofString "/claim/cut.py") 270] }
noncomputable def ob98 (P : Params) : Obj := { cls := Value.type "dict", data := Data.dict #[{ hash := PyData.keyHash P (Str.ofString "__module__"), key := Value.str (Str.ofString "__module__") 243, val := Value.str (Str.ofString "paperhold.errors") 194 }, { hash := PyData.keyHash P (Str.ofString "__firstlineno__"), key := Value.str (Str.ofString "__firstlineno__") 247, val := Value.int 14 246 }, { hash := PyData.keyHash P (Str.ofString "__static_attributes__"), key := Value.str (Str.ofString "__static_attributes__") 248, val := Value.ref 57 }, { hash := PyData.keyHash P (Str.ofString "__doc__"), key := Value.str (Str.ofString "__doc__") 249, val := Value.none }] 2 }
noncomputable def ob46 (P : Params) : Obj := { cls := Value.type "frame", slots := #[some (Value.ref 13), some (Value.ref 3), some (Value.ref 3), none, some (Value.str (Str.ofString "__main__") 164), none, some (Value.ref 0)] }
noncomputable def ob59 (P : Params) : Obj := { cls := Value.type "tuple", data := Data.seq #[Value.type "Exception"] }
noncomputable def ob75 (P : Params) : Obj := { cls := Value.none, data := Data.fields #[] }
noncomputable def ob110 (P : Params) : Obj := { cls := Value.none, data := Data.fields #[] }
noncomputable def ob94 (P : Params) : Obj := { cls := Value.none, data := Data.fields #[] }
noncomputable def ob67 (P : Params) : Obj := { cls := Value.type "tuple", data := Data.seq #[] }
noncomputable def ob89 (P : Params) : Obj := { cls := Value.type "type", data := Data.cls { name := Str.ofString "PaperError", bases := [Value.type "Exception"], mro := [Value.ref 46, Value.type "Exception", Value.type "BaseException", Value.type "object"], ns := 45, qualname := Str.ofString "PaperError", subclasses := [Value.ref 59] }, slots := #[some (Value.ref 22), none, some (Value.str (Str.ofString "PaperError") 196), some (Value.str (Str.ofString "PaperError") 204), some (Value.builtin "Exception.__new__"), some (Value.bool true)] }
noncomputable def ob102 (P : Params) : Obj := { cls := Value.type "tuple", data := Data.seq #[] }
noncomputable def tr115 (P : Params) : BT := (.node (boot_o_0 P) (.node (boot_o_1 P) (.node (ob87 P) (.node (boot_o_7 P) (.node (ob52 P) (.node (ob68 P) (.node (ob103 P) .nil .nil) .nil) (.node (ob84 P) .nil .nil)) (.node (ob60 P) (.node (ob76 P) (.node (ob111 P) .nil .nil) .nil) (.node (ob95 P) .nil .nil))) (.node (ob43 P) (.node (ob56 P) (.node (ob72 P) (.node (ob107 P) .nil .nil) .nil) (.node (ob91 P) .nil .nil)) (.node (ob64 P) (.node (ob80 P) (.node (ob115 P) .nil .nil) .nil) (.node (ob99 P) .nil .nil)))) (.node (boot_o_5 P) (.node (boot_o_9 P) (.node (ob54 P) (.node (ob70 P) (.node (ob105 P) .nil .nil) .nil) (.node (ob86 P) .nil .nil)) (.node (ob62 P) (.node (ob78 P) (.node (ob113 P) .nil .nil) .nil) (.node (ob97 P) .nil .nil))) (.node (ob45 P) (.node (ob58 P) (.node (ob74 P) (.node (ob109 P) .nil .nil) .nil) (.node (ob93 P) .nil .nil)) (.node (ob66 P) (.node (ob82 P) .nil .nil) (.node (ob101 P) .nil .nil))))) (.node (ob49 P) (.node (boot_o_4 P) (.node (boot_o_8 P) (.node (ob53 P) (.node (ob69 P) (.node (ob104 P) .nil .nil) .nil) (.node (ob85 P) .nil .nil)) (.node (ob61 P) (.node (ob77 P) (.node (ob112 P) .nil .nil) .nil) (.node (ob96 P) .nil .nil))) (.node (ob88 P) (.node (ob57 P) (.node (ob73 P) (.node (ob108 P) .nil .nil) .nil) (.node (ob92 P) .nil .nil)) (.node (ob65 P) (.node (ob81 P) .nil .nil) (.node (ob100 P) .nil .nil)))) (.node (boot_o_6 P) (.node (boot_o_10 P) (.node (ob55 P) (.node (ob71 P) (.node (ob106 P) .nil .nil) .nil) (.node (ob90 P) .nil .nil)) (.node (ob63 P) (.node (ob79 P) (.node (ob114 P) .nil .nil) .nil) (.node (ob98 P) .nil .nil))) (.node (ob46 P) (.node (ob59 P) (.node (ob75 P) (.node (ob110 P) .nil .nil) .nil) (.node (ob94 P) .nil .nil)) (.node (ob67 P) (.node (ob89 P) .nil .nil) (.node (ob102 P) .nil .nil))))))
noncomputable def ob160 (P : Params) : Obj := { cls := Value.type "dict", data := Data.dict #[{ hash := PyData.keyHash P (Str.ofString "__name__"), key := Value.str (Str.ofString "__name__") 165, val := Value.str (Str.ofString "paperhold.lzw") 380 }, { hash := PyData.keyHash P (Str.ofString "__doc__"), key := Value.str (Str.ofString "__doc__") 166, val := Value.none }, { hash := PyData.keyHash P (Str.ofString "__package__"), key := Value.str (Str.ofString "__package__") 167, val := Value.none }, { hash := PyData.keyHash P (Str.ofString "__loader__"), key := Value.str (Str.ofString "__loader__") 168, val := Value.builtin "__main__.__loader__#opaque" }, { hash := PyData.keyHash P (Str.ofString "__spec__"), key := Value.str (Str.ofString "__spec__") 169, val := Value.none }, { hash := PyData.keyHash P (Str.ofString "__annotations__"), key := Value.str (Str.ofString "__annotations__") 170, val := Value.ref 6 }, { hash := PyData.keyHash P (Str.ofString "__builtins__"), key := Value.str (Str.ofString "__builtins__") 171, val := Value.ref 4 }, { hash := PyData.keyHash P (Str.ofString "__file__"), key := Value.str (Str.ofString "__file__") 173, val := Value.str (Str.ofString "/claim/cut.py") 172 }, { hash := PyData.keyHash P (Str.ofString "__cached__"), key := Value.str (Str.ofString "__cached__") 174, val := Value.none }, { hash := PyData.keyHash P (Str.ofString "_wall"), key := Value.str (Str.ofString "_wall") 193, val := Value.ref 21 }, { hash := PyData.keyHash P (Str.ofString "PaperError"), key := Value.str (Str.ofString "PaperError") 235, val := Value.ref 46 }, { hash := PyData.keyHash P (Str.ofString "FilterFault"), key := Value.str (Str.ofString "FilterFault") 251, val := Value.ref 59 }, { hash := PyData.keyHash P (Str.ofString "OCTET"), key := Value.str (Str.ofString "OCTET") 255, val := Value.int 8 254 }, { hash := PyData.keyHash P (Str.ofString "low_bits"), key := Value.str (Str.ofString "low_bits") 263, val := Value.ref 68 }, { hash := PyData.keyHash P (Str.ofString "check_fit"), key := Value.str (Str.ofString "check_fit") 271, val := Value.ref 75 }, { hash := PyData.keyHash P (Str.ofString "HighBitsIn"), key := Value.str (Str.ofString "HighBitsIn") 326, val := Value.ref 113 }, { hash := PyData.keyHash P (Str.ofString "HighBitsOut"), key := Value.str (Str.ofString "HighBitsOut") 379, val := Value.ref 155 }, { hash := PyData.keyHash P (Str.ofString "BITS"), key := Value.str (Str.ofString "BITS") 383, val := Value.int 8 382 }, { hash := PyData.keyHash P (Str.ofString "WIDEST"), key := Value.str (Str.ofString "WIDEST") 385, val := Value.int 12 384 }] 19 }
noncomputable def ob171 (P : Params) : Obj := { cls := Value.type "tuple", data := Data.seq #[Value.str (Str.ofString "self") 342] }
noncomputable def ob137 (P : Params) : Obj := { cls := Value.type "code", data := Data.fields #[Value.str (Str.ofString "left") 292, Value.str (Str.ofString "HighBitsIn.left") 293, Value.str (Str.ofString "/claim/cut.py") 294, Value.int 31 0, Value.int 1 0, Value.int 0 0, Value.int 0 0, Value.int 3 0, Value.ref 90, Value.bool true, Value.int 181 0, Value.ref 91, Value.none, Value.ref 92, Value.ref 93, Value.ref 94, Value.int 296 0, Value.int 31 0, Value.str (Str.ofString "/claim/cut.py") 297] }
noncomputable def ob203 (P : Params) : Obj := { cls := Value.type "builtin_function_or_method", data := Data.fields #[Value.builtin "object.__init_subclass__", Value.ref 155] }
noncomputable def ob121 (P : Params) : Obj := { cls := Value.type "tuple", data := Data.seq #[] }
noncomputable def ob187 (P : Params) : Obj := { cls := Value.none, data := Data.func (FuncData.mk (Str.ofString "align") (Str.ofString "HighBitsOut.align") (fdP (inC (sAt 9) 2)) (.stmts (fdB (inC (sAt 9) 2))) (fdS (inC (sAt 9) 2)) (0) ([]) (Value.none) (Value.none) (Value.none) (Value.none) (none) (Value.none) (Value.none) (0)) }
noncomputable def ob153 (P : Params) : Obj := { cls := Value.type "tuple", data := Data.seq #[Value.str (Str.ofString "at") 315, Value.str (Str.ofString "count") 316, Value.str (Str.ofString "data") 317, Value.str (Str.ofString "held") 318] }
noncomputable def ob179 (P : Params) : Obj := { cls := Value.type "tuple", data := Data.seq #[] }
noncomputable def ob145 (P : Params) : Obj := { cls := Value.type "function", data := Data.func (FuncData.mk (Str.ofString "take") (Str.ofString "HighBitsIn.take") (fdP (inC (sAt 8) 2)) (.stmts (fdB (inC (sAt 8) 2))) (fdS (inC (sAt 8) 2)) (3) ([]) (Value.none) (Value.none) (Value.none) (Value.str (Str.ofString "paperhold.bits") 252) (none) (Value.ref 102) (Value.none) (0)) }
noncomputable def ob129 (P : Params) : Obj := { cls := Value.none, data := Data.func (FuncData.mk (Str.ofString "__init__") (Str.ofString "HighBitsIn.__init__") (fdP (inC (sAt 8) 0)) (.stmts (fdB (inC (sAt 8) 0))) (fdS (inC (sAt 8) 0)) (0) ([]) (Value.none) (Value.none) (Value.none) (Value.none) (none) (Value.none) (Value.none) (0)) }
noncomputable def ob195 (P : Params) : Obj := { cls := Value.type "code", data := Data.fields #[Value.str (Str.ofString "octets") 362, Value.str (Str.ofString "HighBitsOut.octets") 363, Value.str (Str.ofString "/claim/cut.py") 364, Value.int 67 0, Value.int 1 0, Value.int 0 0, Value.int 0 0, Value.int 3 0, Value.ref 146, Value.bool true, Value.int 181 0, Value.ref 147, Value.none, Value.ref 148, Value.ref 149, Value.ref 150, Value.int 366 0, Value.int 67 0, Value.str (Str.ofString "/claim/cut.py") 367] }
noncomputable def ob163 (P : Params) : Obj := { cls := Value.type "builtin_function_or_method", data := Data.fields #[Value.builtin "type.__prepare__", Value.type "type"] }
noncomputable def ob175 (P : Params) : Obj := { cls := Value.type "function", data := Data.func (FuncData.mk (Str.ofString "__init__") (Str.ofString "HighBitsOut.__init__") (fdP (inC (sAt 9) 0)) (.stmts (fdB (inC (sAt 9) 0))) (fdS (inC (sAt 9) 0)) (3) ([]) (Value.none) (Value.none) (Value.none) (Value.str (Str.ofString "paperhold.bits") 252) (none) (Value.ref 130) (Value.none) (0)) }
noncomputable def ob141 (P : Params) : Obj := { cls := Value.type "tuple", data := Data.seq #[Value.str (Str.ofString "self") 302, Value.str (Str.ofString "count") 303, Value.str (Str.ofString "value") 304] }
noncomputable def ob125 (P : Params) : Obj := { cls := Value.type "tuple", data := Data.seq #[] }
noncomputable def ob191 (P : Params) : Obj := { cls := Value.none, data := Data.fields #[] }
noncomputable def ob157 (P : Params) : Obj := { cls := Value.type "getset_descriptor", data := Data.fields #[Value.str (Str.ofString "__weakref__") 322, Value.ref 113, Value.builtin "ExceptionGroup.__weakref__", Value.none] }
noncomputable def ob183 (P : Params) : Obj := { cls := Value.type "tuple", data := Data.seq #[] }
noncomputable def ob149 (P : Params) : Obj := { cls := Value.type "tuple", data := Data.seq #[] }
noncomputable def ob133 (P : Params) : Obj := { cls := Value.none, data := Data.fields #[] }
noncomputable def ob199 (P : Params) : Obj := { cls := Value.type "type", data := Data.cls { name := Str.ofString "HighBitsOut", bases := [Value.type "object"], mro := [Value.ref 155, Value.type "object"], ns := 154, qualname := Str.ofString "HighBitsOut" }, slots := #[none, none, some (Value.str (Str.ofString "HighBitsOut") 327), some (Value.str (Str.ofString "HighBitsOut") 335), some (Value.builtin "object.__new__"), some (Value.bool true)] }
noncomputable def ob167 (P : Params) : Obj := { cls := Value.type "code", data := Data.fields #[Value.str (Str.ofString "HighBitsOut") 329, Value.str (Str.ofString "HighBitsOut") 330, Value.str (Str.ofString "/claim/cut.py") 331, Value.int 48 0, Value.int 0 0, Value.int 0 0, Value.int 0 0, Value.int 0 0, Value.ref 121, Value.bool false, Value.int 181 0, Value.ref 122, Value.none, Value.none, Value.none, Value.none, Value.int 332 0, Value.int 48 0, Value.str (Str.ofString "/claim/cut.py") 333] }
noncomputable def ob173 (P : Params) : Obj := { cls := Value.none, data := Data.func (FuncData.mk (Str.ofString "__init__") (Str.ofString "HighBitsOut.__init__") (fdP (inC (sAt 9) 0)) (.stmts (fdB (inC (sAt 9) 0))) (fdS (inC (sAt 9) 0)) (0) ([]) (Value.none) (Value.none) (Value.none) (Value.none) (none) (Value.none) (Value.none) (0)) }
noncomputable def ob139 (P : Params) : Obj := { cls := Value.type "tuple", data := Data.seq #[] }
noncomputable def ob123 (P : Params) : Obj := { cls := Value.type "code", data := Data.fields #[Value.str (Str.ofString "HighBitsIn") 274, Value.str (Str.ofString "HighBitsIn") 275, Value.str (Str.ofString "/claim/cut.py") 276, Value.int 23 0, Value.int 0 0, Value.int 0 0, Value.int 0 0, Value.int 0 0, Value.ref 79, Value.bool false, Value.int 181 0, Value.ref 80, Value.none, Value.none, Value.none, Value.none, Value.int 277 0, Value.int 23 0, Value.str (Str.ofString "/claim/cut.py") 278] }
noncomputable def ob189 (P : Params) : Obj := { cls := Value.type "function", data := Data.func (FuncData.mk (Str.ofString "align") (Str.ofString "HighBitsOut.align") (fdP (inC (sAt 9) 2)) (.stmts (fdB (inC (sAt 9) 2))) (fdS (inC (sAt 9) 2)) (3) ([]) (Value.none) (Value.none) (Value.none) (Value.str (Str.ofString "paperhold.bits") 252) (none) (Value.ref 144) (Value.none) (0)) }
noncomputable def ob155 (P : Params) : Obj := { cls := Value.type "type", data := Data.cls { name := Str.ofString "HighBitsIn", bases := [Value.type "object"], mro := [Value.ref 113, Value.type "object"], ns := 112, qualname := Str.ofString "HighBitsIn" }, slots := #[none, none, some (Value.str (Str.ofString "HighBitsIn") 272), some (Value.str (Str.ofString "HighBitsIn") 280), some (Value.builtin "object.__new__"), some (Value.bool true)] }
noncomputable def ob181 (P : Params) : Obj := { cls := Value.type "code", data := Data.fields #[Value.str (Str.ofString "put") 346, Value.str (Str.ofString "HighBitsOut.put") 347, Value.str (Str.ofString "/claim/cut.py") 348, Value.int 55 0, Value.int 3 0, Value.int 0 0, Value.int 0 0, Value.int 3 0, Value.ref 132, Value.bool true, Value.int 181 0, Value.ref 133, Value.none, Value.ref 134, Value.ref 135, Value.ref 136, Value.int 352 0, Value.int 55 0, Value.str (Str.ofString "/claim/cut.py") 353] }
noncomputable def ob147 (P : Params) : Obj := { cls := Value.none, data := Data.fields #[] }
noncomputable def ob131 (P : Params) : Obj := { cls := Value.type "function", data := Data.func (FuncData.mk (Str.ofString "__init__") (Str.ofString "HighBitsIn.__init__") (fdP (inC (sAt 8) 0)) (.stmts (fdB (inC (sAt 8) 0))) (fdS (inC (sAt 8) 0)) (3) ([]) (Value.none) (Value.none) (Value.none) (Value.str (Str.ofString "paperhold.bits") 252) (none) (Value.ref 88) (Value.none) (0)) }
noncomputable def ob197 (P : Params) : Obj := { cls := Value.type "tuple", data := Data.seq #[Value.str (Str.ofString "count") 369, Value.str (Str.ofString "held") 370, Value.str (Str.ofString "made") 371] }
noncomputable def ob165 (P : Params) : Obj := { cls := Value.type "tuple", data := Data.seq #[] }
noncomputable def ob177 (P : Params) : Obj := { cls := Value.none, data := Data.fields #[] }
noncomputable def ob143 (P : Params) : Obj := { cls := Value.none, data := Data.func (FuncData.mk (Str.ofString "take") (Str.ofString "HighBitsIn.take") (fdP (inC (sAt 8) 2)) (.stmts (fdB (inC (sAt 8) 2))) (fdS (inC (sAt 8) 2)) (0) ([]) (Value.none) (Value.none) (Value.none) (Value.none) (none) (Value.none) (Value.none) (0)) }
noncomputable def ob127 (P : Params) : Obj := { cls := Value.type "tuple", data := Data.seq #[Value.str (Str.ofString "self") 287, Value.str (Str.ofString "data") 288] }
noncomputable def ob193 (P : Params) : Obj := { cls := Value.type "tuple", data := Data.seq #[] }
noncomputable def ob159 (P : Params) : Obj := { cls := Value.type "builtin_function_or_method", data := Data.fields #[Value.builtin "object.__init_subclass__", Value.ref 113] }
noncomputable def ob119 (P : Params) : Obj := { cls := Value.type "builtin_function_or_method", data := Data.fields #[Value.builtin "type.__prepare__", Value.type "type"] }
noncomputable def ob185 (P : Params) : Obj := { cls := Value.type "tuple", data := Data.seq #[Value.str (Str.ofString "self") 358] }
noncomputable def ob151 (P : Params) : Obj := { cls := Value.type "code", data := Data.fields #[Value.str (Str.ofString "align") 308, Value.str (Str.ofString "HighBitsIn.align") 309, Value.str (Str.ofString "/claim/cut.py") 310, Value.int 46 0, Value.int 1 0, Value.int 0 0, Value.int 0 0, Value.int 3 0, Value.ref 104, Value.bool true, Value.int 181 0, Value.ref 105, Value.none, Value.ref 106, Value.ref 107, Value.ref 108, Value.int 312 0, Value.int 46 0, Value.str (Str.ofString "/claim/cut.py") 313] }
noncomputable def ob135 (P : Params) : Obj := { cls := Value.type "tuple", data := Data.seq #[] }
noncomputable def ob201 (P : Params) : Obj := { cls := Value.type "getset_descriptor", data := Data.fields #[Value.str (Str.ofString "__weakref__") 375, Value.ref 155, Value.builtin "ExceptionGroup.__weakref__", Value.none] }
noncomputable def ob169 (P : Params) : Obj := { cls := Value.type "tuple", data := Data.seq #[] }
noncomputable def ob172 (P : Params) : Obj := { cls := Value.type "tuple", data := Data.seq #[] }
noncomputable def ob138 (P : Params) : Obj := { cls := Value.type "function", data := Data.func (FuncData.mk (Str.ofString "left") (Str.ofString "HighBitsIn.left") (fdP (inC (sAt 8) 1)) (.stmts (fdB (inC (sAt 8) 1))) (fdS (inC (sAt 8) 1)) (3) ([]) (Value.none) (Value.none) (Value.none) (Value.str (Str.ofString "paperhold.bits") 252) (none) (Value.ref 95) (Value.none) (0)) }
noncomputable def ob122 (P : Params) : Obj := { cls := Value.none, data := Data.fields #[Value.int 25 0, Value.int 4 0, Value.ref 88, Value.int 31 0, Value.int 4 0, Value.ref 95, Value.int 34 0, Value.int 4 0, Value.ref 102, Value.int 46 0, Value.int 4 0, Value.ref 109] }
noncomputable def ob188 (P : Params) : Obj := { cls := Value.type "code", data := Data.fields #[Value.str (Str.ofString "align") 355, Value.str (Str.ofString "HighBitsOut.align") 356, Value.str (Str.ofString "/claim/cut.py") 357, Value.int 64 0, Value.int 1 0, Value.int 0 0, Value.int 0 0, Value.int 3 0, Value.ref 139, Value.bool true, Value.int 181 0, Value.ref 140, Value.none, Value.ref 141, Value.ref 142, Value.ref 143, Value.int 359 0, Value.int 64 0, Value.str (Str.ofString "/claim/cut.py") 360] }
noncomputable def ob154 (P : Params) : Obj := { cls := Value.type "dict", data := Data.dict #[{ hash := PyData.keyHash P (Str.ofString "__module__"), key := Value.str (Str.ofString "__module__") 279, val := Value.str (Str.ofString "paperhold.bits") 252 }, { hash := PyData.keyHash P (Str.ofString "__firstlineno__"), key := Value.str (Str.ofString "__firstlineno__") 283, val := Value.int 23 282 }, { hash := PyData.keyHash P (Str.ofString "__init__"), key := Value.str (Str.ofString "__init__") 291, val := Value.ref 89 }, { hash := PyData.keyHash P (Str.ofString "left"), key := Value.str (Str.ofString "left") 298, val := Value.ref 96 }, { hash := PyData.keyHash P (Str.ofString "take"), key := Value.str (Str.ofString "take") 307, val := Value.ref 103 }, { hash := PyData.keyHash P (Str.ofString "align"), key := Value.str (Str.ofString "align") 314, val := Value.ref 110 }, { hash := PyData.keyHash P (Str.ofString "__static_attributes__"), key := Value.str (Str.ofString "__static_attributes__") 319, val := Value.ref 111 }, { hash := PyData.keyHash P (Str.ofString "__dict__"), key := Value.str (Str.ofString "__dict__") 321, val := Value.ref 114 }, { hash := PyData.keyHash P (Str.ofString "__weakref__"), key := Value.str (Str.ofString "__weakref__") 323, val := Value.ref 115 }, { hash := PyData.keyHash P (Str.ofString "__doc__"), key := Value.str (Str.ofString "__doc__") 324, val := Value.none }] 4 }
noncomputable def ob180 (P : Params) : Obj := { cls := Value.none, data := Data.func (FuncData.mk (Str.ofString "put") (Str.ofString "HighBitsOut.put") (fdP (inC (sAt 9) 1)) (.stmts (fdB (inC (sAt 9) 1))) (fdS (inC (sAt 9) 1)) (0) ([]) (Value.none) (Value.none) (Value.none) (Value.none) (none) (Value.none) (Value.none) (0)) }
noncomputable def ob146 (P : Params) : Obj := { cls := Value.type "tuple", data := Data.seq #[] }
noncomputable def ob130 (P : Params) : Obj := { cls := Value.type "code", data := Data.fields #[Value.str (Str.ofString "__init__") 284, Value.str (Str.ofString "HighBitsIn.__init__") 285, Value.str (Str.ofString "/claim/cut.py") 286, Value.int 25 0, Value.int 2 0, Value.int 0 0, Value.int 0 0, Value.int 3 0, Value.ref 83, Value.bool true, Value.int 181 0, Value.ref 84, Value.none, Value.ref 85, Value.ref 86, Value.ref 87, Value.int 289 0, Value.int 25 0, Value.str (Str.ofString "/claim/cut.py") 290] }
noncomputable def ob196 (P : Params) : Obj := { cls := Value.type "function", data := Data.func (FuncData.mk (Str.ofString "octets") (Str.ofString "HighBitsOut.octets") (fdP (inC (sAt 9) 3)) (.stmts (fdB (inC (sAt 9) 3))) (fdS (inC (sAt 9) 3)) (3) ([]) (Value.none) (Value.none) (Value.none) (Value.str (Str.ofString "paperhold.bits") 252) (none) (Value.ref 151) (Value.none) (0)) }
noncomputable def ob164 (P : Params) : Obj := { cls := Value.type "dict", data := Data.dict #[{ hash := PyData.keyHash P (Str.ofString "__module__"), key := Value.str (Str.ofString "__module__") 334, val := Value.str (Str.ofString "paperhold.bits") 252 }, { hash := PyData.keyHash P (Str.ofString "__qualname__"), key := Value.str (Str.ofString "__qualname__") 336, val := Value.str (Str.ofString "HighBitsOut") 335 }, { hash := PyData.keyHash P (Str.ofString "__firstlineno__"), key := Value.str (Str.ofString "__firstlineno__") 338, val := Value.int 48 337 }, { hash := PyData.keyHash P (Str.ofString "__init__"), key := Value.str (Str.ofString "__init__") 345, val := Value.ref 131 }, { hash := PyData.keyHash P (Str.ofString "put"), key := Value.str (Str.ofString "put") 354, val := Value.ref 138 }, { hash := PyData.keyHash P (Str.ofString "align"), key := Value.str (Str.ofString "align") 361, val := Value.ref 145 }, { hash := PyData.keyHash P (Str.ofString "octets"), key := Value.str (Str.ofString "octets") 368, val := Value.ref 152 }, { hash := PyData.keyHash P (Str.ofString "__static_attributes__"), key := Value.str (Str.ofString "__static_attributes__") 372, val := Value.ref 153 }] 8 }
noncomputable def ob161 (P : Params) : Obj := { cls := Value.none, data := Data.fields #[Value.int 1 0, Value.int 0 0, Value.ref 20, Value.int 5 0, Value.int 0 0, Value.ref 27, Value.int 14 0, Value.int 0 0, Value.ref 55, Value.int 18 0, Value.int 0 0, Value.ref 67, Value.int 20 0, Value.int 0 0, Value.ref 74, Value.int 23 0, Value.int 0 0, Value.ref 81, Value.int 48 0, Value.int 0 0, Value.ref 123] }
noncomputable def ob176 (P : Params) : Obj := { cls := Value.type "tuple", data := Data.seq #[] }
noncomputable def ob142 (P : Params) : Obj := { cls := Value.type "tuple", data := Data.seq #[] }
noncomputable def ob126 (P : Params) : Obj := { cls := Value.none, data := Data.fields #[] }
noncomputable def ob192 (P : Params) : Obj := { cls := Value.type "tuple", data := Data.seq #[Value.str (Str.ofString "self") 365] }
noncomputable def ob158 (P : Params) : Obj := { cls := Value.type "super", data := Data.fields #[Value.ref 113, Value.ref 113, Value.ref 113] }
noncomputable def ob118 (P : Params) : Obj := { cls := Value.type "tuple", data := Data.seq #[] }
noncomputable def ob184 (P : Params) : Obj := { cls := Value.none, data := Data.fields #[] }
noncomputable def ob150 (P : Params) : Obj := { cls := Value.none, data := Data.func (FuncData.mk (Str.ofString "align") (Str.ofString "HighBitsIn.align") (fdP (inC (sAt 8) 3)) (.stmts (fdB (inC (sAt 8) 3))) (fdS (inC (sAt 8) 3)) (0) ([]) (Value.none) (Value.none) (Value.none) (Value.none) (none) (Value.none) (Value.none) (0)) }
noncomputable def ob134 (P : Params) : Obj := { cls := Value.type "tuple", data := Data.seq #[Value.str (Str.ofString "self") 295] }
noncomputable def ob200 (P : Params) : Obj := { cls := Value.type "getset_descriptor", data := Data.fields #[Value.str (Str.ofString "__dict__") 373, Value.ref 155, Value.builtin "function.__dict__", Value.builtin "function.__dict__#set"] }
noncomputable def ob168 (P : Params) : Obj := { cls := Value.type "frame", slots := #[some (Value.ref 123), some (Value.ref 3), some (Value.ref 120), none, some (Value.str (Str.ofString "paperhold.bits") 252), none, some (Value.ref 0)] }
noncomputable def ob174 (P : Params) : Obj := { cls := Value.type "code", data := Data.fields #[Value.str (Str.ofString "__init__") 339, Value.str (Str.ofString "HighBitsOut.__init__") 340, Value.str (Str.ofString "/claim/cut.py") 341, Value.int 50 0, Value.int 1 0, Value.int 0 0, Value.int 0 0, Value.int 3 0, Value.ref 125, Value.bool true, Value.int 181 0, Value.ref 126, Value.none, Value.ref 127, Value.ref 128, Value.ref 129, Value.int 343 0, Value.int 50 0, Value.str (Str.ofString "/claim/cut.py") 344] }
noncomputable def ob140 (P : Params) : Obj := { cls := Value.none, data := Data.fields #[] }
noncomputable def ob124 (P : Params) : Obj := { cls := Value.type "frame", slots := #[some (Value.ref 81), some (Value.ref 3), some (Value.ref 78), none, some (Value.str (Str.ofString "paperhold.bits") 252), none, some (Value.ref 0)] }
noncomputable def ob190 (P : Params) : Obj := { cls := Value.type "tuple", data := Data.seq #[] }
noncomputable def ob156 (P : Params) : Obj := { cls := Value.type "getset_descriptor", data := Data.fields #[Value.str (Str.ofString "__dict__") 320, Value.ref 113, Value.builtin "function.__dict__", Value.builtin "function.__dict__#set"] }
noncomputable def ob182 (P : Params) : Obj := { cls := Value.type "function", data := Data.func (FuncData.mk (Str.ofString "put") (Str.ofString "HighBitsOut.put") (fdP (inC (sAt 9) 1)) (.stmts (fdB (inC (sAt 9) 1))) (fdS (inC (sAt 9) 1)) (3) ([]) (Value.none) (Value.none) (Value.none) (Value.str (Str.ofString "paperhold.bits") 252) (none) (Value.ref 137) (Value.none) (0)) }
noncomputable def ob148 (P : Params) : Obj := { cls := Value.type "tuple", data := Data.seq #[Value.str (Str.ofString "self") 311] }
noncomputable def ob132 (P : Params) : Obj := { cls := Value.type "tuple", data := Data.seq #[] }
noncomputable def ob198 (P : Params) : Obj := { cls := Value.type "dict", data := Data.dict #[{ hash := PyData.keyHash P (Str.ofString "__module__"), key := Value.str (Str.ofString "__module__") 334, val := Value.str (Str.ofString "paperhold.bits") 252 }, { hash := PyData.keyHash P (Str.ofString "__firstlineno__"), key := Value.str (Str.ofString "__firstlineno__") 338, val := Value.int 48 337 }, { hash := PyData.keyHash P (Str.ofString "__init__"), key := Value.str (Str.ofString "__init__") 345, val := Value.ref 131 }, { hash := PyData.keyHash P (Str.ofString "put"), key := Value.str (Str.ofString "put") 354, val := Value.ref 138 }, { hash := PyData.keyHash P (Str.ofString "align"), key := Value.str (Str.ofString "align") 361, val := Value.ref 145 }, { hash := PyData.keyHash P (Str.ofString "octets"), key := Value.str (Str.ofString "octets") 368, val := Value.ref 152 }, { hash := PyData.keyHash P (Str.ofString "__static_attributes__"), key := Value.str (Str.ofString "__static_attributes__") 372, val := Value.ref 153 }, { hash := PyData.keyHash P (Str.ofString "__dict__"), key := Value.str (Str.ofString "__dict__") 374, val := Value.ref 156 }, { hash := PyData.keyHash P (Str.ofString "__weakref__"), key := Value.str (Str.ofString "__weakref__") 376, val := Value.ref 157 }, { hash := PyData.keyHash P (Str.ofString "__doc__"), key := Value.str (Str.ofString "__doc__") 377, val := Value.none }] 4 }
noncomputable def ob166 (P : Params) : Obj := { cls := Value.none, data := Data.fields #[Value.int 50 0, Value.int 4 0, Value.ref 130, Value.int 55 0, Value.int 4 0, Value.ref 137, Value.int 64 0, Value.int 4 0, Value.ref 144, Value.int 67 0, Value.int 4 0, Value.ref 151] }
noncomputable def ob178 (P : Params) : Obj := { cls := Value.type "tuple", data := Data.seq #[Value.str (Str.ofString "self") 349, Value.str (Str.ofString "value") 350, Value.str (Str.ofString "count") 351] }
noncomputable def ob144 (P : Params) : Obj := { cls := Value.type "code", data := Data.fields #[Value.str (Str.ofString "take") 299, Value.str (Str.ofString "HighBitsIn.take") 300, Value.str (Str.ofString "/claim/cut.py") 301, Value.int 34 0, Value.int 2 0, Value.int 0 0, Value.int 0 0, Value.int 3 0, Value.ref 97, Value.bool true, Value.int 181 0, Value.ref 98, Value.none, Value.ref 99, Value.ref 100, Value.ref 101, Value.int 305 0, Value.int 34 0, Value.str (Str.ofString "/claim/cut.py") 306] }
noncomputable def ob128 (P : Params) : Obj := { cls := Value.type "tuple", data := Data.seq #[] }
noncomputable def ob194 (P : Params) : Obj := { cls := Value.none, data := Data.func (FuncData.mk (Str.ofString "octets") (Str.ofString "HighBitsOut.octets") (fdP (inC (sAt 9) 3)) (.stmts (fdB (inC (sAt 9) 3))) (fdS (inC (sAt 9) 3)) (0) ([]) (Value.none) (Value.none) (Value.none) (Value.none) (none) (Value.none) (Value.none) (0)) }
noncomputable def ob162 (P : Params) : Obj := { cls := Value.type "tuple", data := Data.seq #[] }
noncomputable def ob120 (P : Params) : Obj := { cls := Value.type "dict", data := Data.dict #[{ hash := PyData.keyHash P (Str.ofString "__module__"), key := Value.str (Str.ofString "__module__") 279, val := Value.str (Str.ofString "paperhold.bits") 252 }, { hash := PyData.keyHash P (Str.ofString "__qualname__"), key := Value.str (Str.ofString "__qualname__") 281, val := Value.str (Str.ofString "HighBitsIn") 280 }, { hash := PyData.keyHash P (Str.ofString "__firstlineno__"), key := Value.str (Str.ofString "__firstlineno__") 283, val := Value.int 23 282 }, { hash := PyData.keyHash P (Str.ofString "__init__"), key := Value.str (Str.ofString "__init__") 291, val := Value.ref 89 }, { hash := PyData.keyHash P (Str.ofString "left"), key := Value.str (Str.ofString "left") 298, val := Value.ref 96 }, { hash := PyData.keyHash P (Str.ofString "take"), key := Value.str (Str.ofString "take") 307, val := Value.ref 103 }, { hash := PyData.keyHash P (Str.ofString "align"), key := Value.str (Str.ofString "align") 314, val := Value.ref 110 }, { hash := PyData.keyHash P (Str.ofString "__static_attributes__"), key := Value.str (Str.ofString "__static_attributes__") 319, val := Value.ref 111 }] 8 }
noncomputable def ob186 (P : Params) : Obj := { cls := Value.type "tuple", data := Data.seq #[] }
noncomputable def ob152 (P : Params) : Obj := { cls := Value.type "function", data := Data.func (FuncData.mk (Str.ofString "align") (Str.ofString "HighBitsIn.align") (fdP (inC (sAt 8) 3)) (.stmts (fdB (inC (sAt 8) 3))) (fdS (inC (sAt 8) 3)) (3) ([]) (Value.none) (Value.none) (Value.none) (Value.str (Str.ofString "paperhold.bits") 252) (none) (Value.ref 109) (Value.none) (0)) }
noncomputable def ob136 (P : Params) : Obj := { cls := Value.none, data := Data.func (FuncData.mk (Str.ofString "left") (Str.ofString "HighBitsIn.left") (fdP (inC (sAt 8) 1)) (.stmts (fdB (inC (sAt 8) 1))) (fdS (inC (sAt 8) 1)) (0) ([]) (Value.none) (Value.none) (Value.none) (Value.none) (none) (Value.none) (Value.none) (0)) }
noncomputable def ob202 (P : Params) : Obj := { cls := Value.type "super", data := Data.fields #[Value.ref 155, Value.ref 155, Value.ref 155] }
noncomputable def ob170 (P : Params) : Obj := { cls := Value.none, data := Data.fields #[] }
noncomputable def tr203 (P : Params) : BT := (.node (boot_o_0 P) (.node (boot_o_1 P) (.node (ob160 P) (.node (boot_o_7 P) (.node (ob52 P) (.node (ob68 P) (.node (ob103 P) (.node (ob171 P) .nil .nil) .nil) (.node (ob137 P) (.node (ob203 P) .nil .nil) .nil)) (.node (ob84 P) (.node (ob121 P) (.node (ob187 P) .nil .nil) .nil) (.node (ob153 P) .nil .nil))) (.node (ob60 P) (.node (ob76 P) (.node (ob111 P) (.node (ob179 P) .nil .nil) .nil) (.node (ob145 P) .nil .nil)) (.node (ob95 P) (.node (ob129 P) (.node (ob195 P) .nil .nil) .nil) (.node (ob163 P) .nil .nil)))) (.node (ob43 P) (.node (ob56 P) (.node (ob72 P) (.node (ob107 P) (.node (ob175 P) .nil .nil) .nil) (.node (ob141 P) .nil .nil)) (.node (ob91 P) (.node (ob125 P) (.node (ob191 P) .nil .nil) .nil) (.node (ob157 P) .nil .nil))) (.node (ob64 P) (.node (ob80 P) (.node (ob115 P) (.node (ob183 P) .nil .nil) .nil) (.node (ob149 P) .nil .nil)) (.node (ob99 P) (.node (ob133 P) (.node (ob199 P) .nil .nil) .nil) (.node (ob167 P) .nil .nil))))) (.node (boot_o_5 P) (.node (boot_o_9 P) (.node (ob54 P) (.node (ob70 P) (.node (ob105 P) (.node (ob173 P) .nil .nil) .nil) (.node (ob139 P) .nil .nil)) (.node (ob86 P) (.node (ob123 P) (.node (ob189 P) .nil .nil) .nil) (.node (ob155 P) .nil .nil))) (.node (ob62 P) (.node (ob78 P) (.node (ob113 P) (.node (ob181 P) .nil .nil) .nil) (.node (ob147 P) .nil .nil)) (.node (ob97 P) (.node (ob131 P) (.node (ob197 P) .nil .nil) .nil) (.node (ob165 P) .nil .nil)))) (.node (ob45 P) (.node (ob58 P) (.node (ob74 P) (.node (ob109 P) (.node (ob177 P) .nil .nil) .nil) (.node (ob143 P) .nil .nil)) (.node (ob93 P) (.node (ob127 P) (.node (ob193 P) .nil .nil) .nil) (.node (ob159 P) .nil .nil))) (.node (ob66 P) (.node (ob82 P) (.node (ob119 P) (.node (ob185 P) .nil .nil) .nil) (.node (ob151 P) .nil .nil)) (.node (ob101 P) (.node (ob135 P) (.node (ob201 P) .nil .nil) .nil) (.node (ob169 P) .nil .nil)))))) (.node (ob49 P) (.node (boot_o_4 P) (.node (boot_o_8 P) (.node (ob53 P) (.node (ob69 P) (.node (ob104 P) (.node (ob172 P) .nil .nil) .nil) (.node (ob138 P) .nil .nil)) (.node (ob85 P) (.node (ob122 P) (.node (ob188 P) .nil .nil) .nil) (.node (ob154 P) .nil .nil))) (.node (ob61 P) (.node (ob77 P) (.node (ob112 P) (.node (ob180 P) .nil .nil) .nil) (.node (ob146 P) .nil .nil)) (.node (ob96 P) (.node (ob130 P) (.node (ob196 P) .nil .nil) .nil) (.node (ob164 P) .nil .nil)))) (.node (ob161 P) (.node (ob57 P) (.node (ob73 P) (.node (ob108 P) (.node (ob176 P) .nil .nil) .nil) (.node (ob142 P) .nil .nil)) (.node (ob92 P) (.node (ob126 P) (.node (ob192 P) .nil .nil) .nil) (.node (ob158 P) .nil .nil))) (.node (ob65 P) (.node (ob81 P) (.node (ob118 P) (.node (ob184 P) .nil .nil) .nil) (.node (ob150 P) .nil .nil)) (.node (ob100 P) (.node (ob134 P) (.node (ob200 P) .nil .nil) .nil) (.node (ob168 P) .nil .nil))))) (.node (boot_o_6 P) (.node (boot_o_10 P) (.node (ob55 P) (.node (ob71 P) (.node (ob106 P) (.node (ob174 P) .nil .nil) .nil) (.node (ob140 P) .nil .nil)) (.node (ob90 P) (.node (ob124 P) (.node (ob190 P) .nil .nil) .nil) (.node (ob156 P) .nil .nil))) (.node (ob63 P) (.node (ob79 P) (.node (ob114 P) (.node (ob182 P) .nil .nil) .nil) (.node (ob148 P) .nil .nil)) (.node (ob98 P) (.node (ob132 P) (.node (ob198 P) .nil .nil) .nil) (.node (ob166 P) .nil .nil)))) (.node (ob46 P) (.node (ob59 P) (.node (ob75 P) (.node (ob110 P) (.node (ob178 P) .nil .nil) .nil) (.node (ob144 P) .nil .nil)) (.node (ob94 P) (.node (ob128 P) (.node (ob194 P) .nil .nil) .nil) (.node (ob162 P) .nil .nil))) (.node (ob67 P) (.node (ob89 P) (.node (ob120 P) (.node (ob186 P) .nil .nil) .nil) (.node (ob152 P) .nil .nil)) (.node (ob102 P) (.node (ob136 P) (.node (ob202 P) .nil .nil) .nil) (.node (ob170 P) .nil .nil)))))))
noncomputable def ob293 (P : Params) : Obj := { cls := Value.type "dict", data := Data.dict #[{ hash := PyData.keyHash P (Str.ofString "__name__"), key := Value.str (Str.ofString "__name__") 165, val := Value.str (Str.ofString "law_og0144_01") 502 }, { hash := PyData.keyHash P (Str.ofString "__doc__"), key := Value.str (Str.ofString "__doc__") 166, val := Value.none }, { hash := PyData.keyHash P (Str.ofString "__package__"), key := Value.str (Str.ofString "__package__") 167, val := Value.none }, { hash := PyData.keyHash P (Str.ofString "__loader__"), key := Value.str (Str.ofString "__loader__") 168, val := Value.builtin "__main__.__loader__#opaque" }, { hash := PyData.keyHash P (Str.ofString "__spec__"), key := Value.str (Str.ofString "__spec__") 169, val := Value.none }, { hash := PyData.keyHash P (Str.ofString "__annotations__"), key := Value.str (Str.ofString "__annotations__") 170, val := Value.ref 6 }, { hash := PyData.keyHash P (Str.ofString "__builtins__"), key := Value.str (Str.ofString "__builtins__") 171, val := Value.ref 4 }, { hash := PyData.keyHash P (Str.ofString "__file__"), key := Value.str (Str.ofString "__file__") 173, val := Value.str (Str.ofString "/claim/cut.py") 172 }, { hash := PyData.keyHash P (Str.ofString "__cached__"), key := Value.str (Str.ofString "__cached__") 174, val := Value.none }, { hash := PyData.keyHash P (Str.ofString "_wall"), key := Value.str (Str.ofString "_wall") 193, val := Value.ref 21 }, { hash := PyData.keyHash P (Str.ofString "PaperError"), key := Value.str (Str.ofString "PaperError") 235, val := Value.ref 46 }, { hash := PyData.keyHash P (Str.ofString "FilterFault"), key := Value.str (Str.ofString "FilterFault") 251, val := Value.ref 59 }, { hash := PyData.keyHash P (Str.ofString "OCTET"), key := Value.str (Str.ofString "OCTET") 255, val := Value.int 8 254 }, { hash := PyData.keyHash P (Str.ofString "low_bits"), key := Value.str (Str.ofString "low_bits") 263, val := Value.ref 68 }, { hash := PyData.keyHash P (Str.ofString "check_fit"), key := Value.str (Str.ofString "check_fit") 271, val := Value.ref 75 }, { hash := PyData.keyHash P (Str.ofString "HighBitsIn"), key := Value.str (Str.ofString "HighBitsIn") 326, val := Value.ref 113 }, { hash := PyData.keyHash P (Str.ofString "HighBitsOut"), key := Value.str (Str.ofString "HighBitsOut") 379, val := Value.ref 155 }, { hash := PyData.keyHash P (Str.ofString "BITS"), key := Value.str (Str.ofString "BITS") 383, val := Value.int 8 382 }, { hash := PyData.keyHash P (Str.ofString "WIDEST"), key := Value.str (Str.ofString "WIDEST") 385, val := Value.int 12 384 }, { hash := PyData.keyHash P (Str.ofString "Sizes"), key := Value.str (Str.ofString "Sizes") 432, val := Value.ref 184 }, { hash := PyData.keyHash P (Str.ofString "Count"), key := Value.str (Str.ofString "Count") 478, val := Value.ref 219 }, { hash := PyData.keyHash P (Str.ofString "write_codes"), key := Value.str (Str.ofString "write_codes") 489, val := Value.ref 230 }, { hash := PyData.keyHash P (Str.ofString "read_codes"), key := Value.str (Str.ofString "read_codes") 501, val := Value.ref 237 }, { hash := PyData.keyHash P (Str.ofString "_law_draw"), key := Value.str (Str.ofString "_law_draw") 513, val := Value.ref 244 }, { hash := PyData.keyHash P (Str.ofString "law"), key := Value.str (Str.ofString "law") 519, val := Value.ref 249 }] 25 }
noncomputable def ob239 (P : Params) : Obj := { cls := Value.type "dict", data := Data.dict #[{ hash := PyData.keyHash P (Str.ofString "__module__"), key := Value.str (Str.ofString "__module__") 440, val := Value.str (Str.ofString "paperhold.lzw") 380 }, { hash := PyData.keyHash P (Str.ofString "__qualname__"), key := Value.str (Str.ofString "__qualname__") 442, val := Value.str (Str.ofString "Count") 441 }, { hash := PyData.keyHash P (Str.ofString "__firstlineno__"), key := Value.str (Str.ofString "__firstlineno__") 444, val := Value.int 88 443 }, { hash := PyData.keyHash P (Str.ofString "__init__"), key := Value.str (Str.ofString "__init__") 452, val := Value.ref 202 }, { hash := PyData.keyHash P (Str.ofString "width"), key := Value.str (Str.ofString "width") 459, val := Value.ref 209 }, { hash := PyData.keyHash P (Str.ofString "passed"), key := Value.str (Str.ofString "passed") 467, val := Value.ref 216 }, { hash := PyData.keyHash P (Str.ofString "__static_attributes__"), key := Value.str (Str.ofString "__static_attributes__") 471, val := Value.ref 217 }] 7 }
noncomputable def ob271 (P : Params) : Obj := { cls := Value.type "builtin_function_or_method", data := Data.fields #[Value.builtin "object.__init_subclass__", Value.ref 219] }
noncomputable def ob255 (P : Params) : Obj := { cls := Value.none, data := Data.func (FuncData.mk (Str.ofString "width") (Str.ofString "Count.width") (fdP (inC (sAt 14) 1)) (.stmts (fdB (inC (sAt 14) 1))) (fdS (inC (sAt 14) 1)) (0) ([]) (Value.none) (Value.none) (Value.none) (Value.none) (none) (Value.none) (Value.none) (0)) }
noncomputable def ob221 (P : Params) : Obj := { cls := Value.type "tuple", data := Data.seq #[] }
noncomputable def ob287 (P : Params) : Obj := { cls := Value.none, data := Data.fields #[] }
noncomputable def ob247 (P : Params) : Obj := { cls := Value.type "tuple", data := Data.seq #[] }
noncomputable def ob213 (P : Params) : Obj := { cls := Value.type "tuple", data := Data.seq #[Value.int 8 382, Value.int 12 384, Value.int 1 398] }
noncomputable def ob279 (P : Params) : Obj := { cls := Value.type "tuple", data := Data.seq #[] }
noncomputable def ob263 (P : Params) : Obj := { cls := Value.type "code", data := Data.fields #[Value.str (Str.ofString "passed") 460, Value.str (Str.ofString "Count.passed") 461, Value.str (Str.ofString "/claim/cut.py") 462, Value.int 98 0, Value.int 2 0, Value.int 0 0, Value.int 0 0, Value.int 3 0, Value.ref 210, Value.bool true, Value.int 181 0, Value.ref 211, Value.none, Value.ref 212, Value.ref 213, Value.ref 214, Value.int 465 0, Value.int 98 0, Value.str (Str.ofString "/claim/cut.py") 466] }
noncomputable def ob229 (P : Params) : Obj := { cls := Value.type "dict", data := Data.dict #[{ hash := PyData.keyHash P (Str.ofString "__module__"), key := Value.str (Str.ofString "__module__") 393, val := Value.str (Str.ofString "paperhold.lzw") 380 }, { hash := PyData.keyHash P (Str.ofString "__firstlineno__"), key := Value.str (Str.ofString "__firstlineno__") 397, val := Value.int 74 396 }, { hash := PyData.keyHash P (Str.ofString "__init__"), key := Value.str (Str.ofString "__init__") 408, val := Value.ref 174 }, { hash := PyData.keyHash P (Str.ofString "width"), key := Value.str (Str.ofString "width") 417, val := Value.ref 181 }, { hash := PyData.keyHash P (Str.ofString "__static_attributes__"), key := Value.str (Str.ofString "__static_attributes__") 425, val := Value.ref 182 }, { hash := PyData.keyHash P (Str.ofString "__dict__"), key := Value.str (Str.ofString "__dict__") 427, val := Value.ref 185 }, { hash := PyData.keyHash P (Str.ofString "__weakref__"), key := Value.str (Str.ofString "__weakref__") 429, val := Value.ref 186 }, { hash := PyData.keyHash P (Str.ofString "__doc__"), key := Value.str (Str.ofString "__doc__") 430, val := Value.none }] 4 }
noncomputable def ob297 (P : Params) : Obj := { cls := Value.none, data := Data.func (FuncData.mk (Str.ofString "law") (Str.ofString "law") (fdP (sAt 19)) (.stmts (fdB (sAt 19))) (fdS (sAt 19)) (0) ([]) (Value.none) (Value.none) (Value.none) (Value.none) (none) (Value.none) (Value.none) (0)) }
noncomputable def ob243 (P : Params) : Obj := { cls := Value.type "frame", slots := #[some (Value.ref 194), some (Value.ref 3), some (Value.ref 191), none, some (Value.str (Str.ofString "paperhold.lzw") 380), none, some (Value.ref 0)] }
noncomputable def ob209 (P : Params) : Obj := { cls := Value.type "tuple", data := Data.seq #[] }
noncomputable def ob275 (P : Params) : Obj := { cls := Value.type "tuple", data := Data.seq #[] }
noncomputable def ob259 (P : Params) : Obj := { cls := Value.none, data := Data.fields #[] }
noncomputable def ob225 (P : Params) : Obj := { cls := Value.none, data := Data.func (FuncData.mk (Str.ofString "width") (Str.ofString "Sizes.width") (fdP (inC (sAt 13) 1)) (.stmts (fdB (inC (sAt 13) 1))) (fdS (inC (sAt 13) 1)) (0) ([]) (Value.none) (Value.none) (Value.none) (Value.none) (none) (Value.none) (Value.none) (0)) }
noncomputable def ob291 (P : Params) : Obj := { cls := Value.type "code", data := Data.fields #[Value.str (Str.ofString "_law_draw") 504, Value.str (Str.ofString "_law_draw") 505, Value.str (Str.ofString "/claim/cut.py") 506, Value.int 124 0, Value.int 2 0, Value.int 0 0, Value.int 0 0, Value.int 3 0, Value.ref 238, Value.bool true, Value.int 181 0, Value.ref 239, Value.none, Value.ref 240, Value.ref 241, Value.ref 242, Value.int 511 0, Value.int 124 0, Value.str (Str.ofString "/claim/cut.py") 512] }
noncomputable def ob251 (P : Params) : Obj := { cls := Value.type "tuple", data := Data.seq #[] }
noncomputable def ob217 (P : Params) : Obj := { cls := Value.type "tuple", data := Data.seq #[] }
noncomputable def ob283 (P : Params) : Obj := { cls := Value.none, data := Data.func (FuncData.mk (Str.ofString "read_codes") (Str.ofString "read_codes") (fdP (sAt 16)) (.stmts (fdB (sAt 16))) (fdS (sAt 16)) (0) ([]) (Value.none) (Value.none) (Value.none) (Value.none) (none) (Value.none) (Value.none) (0)) }
noncomputable def ob267 (P : Params) : Obj := { cls := Value.type "type", data := Data.cls { name := Str.ofString "Count", bases := [Value.type "object"], mro := [Value.ref 219, Value.type "object"], ns := 218, qualname := Str.ofString "Count" }, slots := #[none, none, some (Value.str (Str.ofString "Count") 433), some (Value.str (Str.ofString "Count") 441), some (Value.builtin "object.__new__"), some (Value.bool true)] }
noncomputable def ob233 (P : Params) : Obj := { cls := Value.type "super", data := Data.fields #[Value.ref 184, Value.ref 184, Value.ref 184] }
noncomputable def ob241 (P : Params) : Obj := { cls := Value.none, data := Data.fields #[Value.int 90 0, Value.int 4 0, Value.ref 201, Value.int 95 0, Value.int 4 0, Value.ref 208, Value.int 98 0, Value.int 4 0, Value.ref 215] }
noncomputable def ob207 (P : Params) : Obj := { cls := Value.type "builtin_function_or_method", data := Data.fields #[Value.builtin "type.__prepare__", Value.type "type"] }
noncomputable def ob273 (P : Params) : Obj := { cls := Value.none, data := Data.fields #[] }
noncomputable def ob257 (P : Params) : Obj := { cls := Value.type "function", data := Data.func (FuncData.mk (Str.ofString "width") (Str.ofString "Count.width") (fdP (inC (sAt 14) 1)) (.stmts (fdB (inC (sAt 14) 1))) (fdS (inC (sAt 14) 1)) (3) ([]) (Value.none) (Value.none) (Value.none) (Value.str (Str.ofString "paperhold.lzw") 380) (none) (Value.ref 208) (Value.none) (0)) }
noncomputable def ob223 (P : Params) : Obj := { cls := Value.type "tuple", data := Data.seq #[Value.str (Str.ofString "self") 412, Value.str (Str.ofString "count") 413, Value.str (Str.ofString "needed") 414] }
noncomputable def ob289 (P : Params) : Obj := { cls := Value.type "tuple", data := Data.seq #[] }
noncomputable def ob249 (P : Params) : Obj := { cls := Value.type "code", data := Data.fields #[Value.str (Str.ofString "__init__") 445, Value.str (Str.ofString "Count.__init__") 446, Value.str (Str.ofString "/claim/cut.py") 447, Value.int 90 0, Value.int 2 0, Value.int 0 0, Value.int 0 0, Value.int 3 0, Value.ref 196, Value.bool true, Value.int 181 0, Value.ref 197, Value.none, Value.ref 198, Value.ref 199, Value.ref 200, Value.int 450 0, Value.int 90 0, Value.str (Str.ofString "/claim/cut.py") 451] }
noncomputable def ob215 (P : Params) : Obj := { cls := Value.none, data := Data.fields #[] }
noncomputable def ob281 (P : Params) : Obj := { cls := Value.type "tuple", data := Data.seq #[Value.str (Str.ofString "sizes") 493, Value.str (Str.ofString "data") 494, Value.str (Str.ofString "source") 495, Value.str (Str.ofString "count") 496, Value.str (Str.ofString "codes") 497, Value.str (Str.ofString "code") 498] }
noncomputable def ob265 (P : Params) : Obj := { cls := Value.type "tuple", data := Data.seq #[Value.str (Str.ofString "count") 468, Value.str (Str.ofString "is_begun") 469, Value.str (Str.ofString "sizes") 470] }
noncomputable def ob231 (P : Params) : Obj := { cls := Value.type "getset_descriptor", data := Data.fields #[Value.str (Str.ofString "__dict__") 426, Value.ref 184, Value.builtin "function.__dict__", Value.builtin "function.__dict__#set"] }
noncomputable def ob299 (P : Params) : Obj := { cls := Value.type "function", data := Data.func (FuncData.mk (Str.ofString "law") (Str.ofString "law") (fdP (sAt 19)) (.stmts (fdB (sAt 19))) (fdS (sAt 19)) (3) ([]) (Value.none) (Value.none) (Value.none) (Value.str (Str.ofString "law_og0144_01") 502) (none) (Value.ref 248) (Value.none) (0)) }
noncomputable def ob245 (P : Params) : Obj := { cls := Value.none, data := Data.fields #[] }
noncomputable def ob211 (P : Params) : Obj := { cls := Value.type "code", data := Data.fields #[Value.str (Str.ofString "Sizes") 388, Value.str (Str.ofString "Sizes") 389, Value.str (Str.ofString "/claim/cut.py") 390, Value.int 74 0, Value.int 0 0, Value.int 0 0, Value.int 0 0, Value.int 0 0, Value.ref 163, Value.bool false, Value.int 181 0, Value.ref 164, Value.none, Value.none, Value.none, Value.none, Value.int 391 0, Value.int 74 0, Value.str (Str.ofString "/claim/cut.py") 392] }
noncomputable def ob277 (P : Params) : Obj := { cls := Value.type "code", data := Data.fields #[Value.str (Str.ofString "write_codes") 479, Value.str (Str.ofString "write_codes") 480, Value.str (Str.ofString "/claim/cut.py") 481, Value.int 106 0, Value.int 2 0, Value.int 0 0, Value.int 0 0, Value.int 3 0, Value.ref 224, Value.bool true, Value.int 181 0, Value.ref 225, Value.none, Value.ref 226, Value.ref 227, Value.ref 228, Value.int 487 0, Value.int 106 0, Value.str (Str.ofString "/claim/cut.py") 488] }
noncomputable def ob261 (P : Params) : Obj := { cls := Value.type "tuple", data := Data.seq #[] }
noncomputable def ob227 (P : Params) : Obj := { cls := Value.type "function", data := Data.func (FuncData.mk (Str.ofString "width") (Str.ofString "Sizes.width") (fdP (inC (sAt 13) 1)) (.stmts (fdB (inC (sAt 13) 1))) (fdS (inC (sAt 13) 1)) (3) ([]) (Value.none) (Value.none) (Value.none) (Value.str (Str.ofString "paperhold.lzw") 380) (none) (Value.ref 180) (Value.none) (0)) }
noncomputable def ob295 (P : Params) : Obj := { cls := Value.type "tuple", data := Data.seq #[] }
noncomputable def ob253 (P : Params) : Obj := { cls := Value.type "tuple", data := Data.seq #[Value.str (Str.ofString "self") 456] }
noncomputable def ob219 (P : Params) : Obj := { cls := Value.type "code", data := Data.fields #[Value.str (Str.ofString "__init__") 399, Value.str (Str.ofString "Sizes.__init__") 400, Value.str (Str.ofString "/claim/cut.py") 401, Value.int 76 0, Value.int 4 0, Value.int 0 0, Value.int 0 0, Value.int 3 0, Value.ref 168, Value.bool true, Value.int 181 0, Value.ref 169, Value.none, Value.ref 170, Value.ref 171, Value.ref 172, Value.int 406 0, Value.int 76 0, Value.str (Str.ofString "/claim/cut.py") 407] }
noncomputable def ob285 (P : Params) : Obj := { cls := Value.type "function", data := Data.func (FuncData.mk (Str.ofString "read_codes") (Str.ofString "read_codes") (fdP (sAt 16)) (.stmts (fdB (sAt 16))) (fdS (sAt 16)) (3) ([]) (Value.none) (Value.none) (Value.none) (Value.str (Str.ofString "paperhold.lzw") 380) (none) (Value.ref 236) (Value.none) (0)) }
noncomputable def ob269 (P : Params) : Obj := { cls := Value.type "getset_descriptor", data := Data.fields #[Value.str (Str.ofString "__weakref__") 474, Value.ref 219, Value.builtin "ExceptionGroup.__weakref__", Value.none] }
noncomputable def ob237 (P : Params) : Obj := { cls := Value.type "tuple", data := Data.seq #[] }
noncomputable def ob240 (P : Params) : Obj := { cls := Value.type "tuple", data := Data.seq #[] }
noncomputable def ob206 (P : Params) : Obj := { cls := Value.type "tuple", data := Data.seq #[] }
noncomputable def ob272 (P : Params) : Obj := { cls := Value.type "tuple", data := Data.seq #[] }
noncomputable def ob256 (P : Params) : Obj := { cls := Value.type "code", data := Data.fields #[Value.str (Str.ofString "width") 453, Value.str (Str.ofString "Count.width") 454, Value.str (Str.ofString "/claim/cut.py") 455, Value.int 95 0, Value.int 1 0, Value.int 0 0, Value.int 0 0, Value.int 3 0, Value.ref 203, Value.bool true, Value.int 181 0, Value.ref 204, Value.none, Value.ref 205, Value.ref 206, Value.ref 207, Value.int 457 0, Value.int 95 0, Value.str (Str.ofString "/claim/cut.py") 458] }
noncomputable def ob222 (P : Params) : Obj := { cls := Value.none, data := Data.fields #[] }
noncomputable def ob288 (P : Params) : Obj := { cls := Value.type "tuple", data := Data.seq #[Value.str (Str.ofString "pen") 507, Value.str (Str.ofString "many") 508, Value.str (Str.ofString "cell") 509, Value.str (Str.ofString "digit") 510] }
noncomputable def ob248 (P : Params) : Obj := { cls := Value.none, data := Data.func (FuncData.mk (Str.ofString "__init__") (Str.ofString "Count.__init__") (fdP (inC (sAt 14) 0)) (.stmts (fdB (inC (sAt 14) 0))) (fdS (inC (sAt 14) 0)) (0) ([]) (Value.none) (Value.none) (Value.none) (Value.none) (none) (Value.none) (Value.none) (0)) }
noncomputable def ob214 (P : Params) : Obj := { cls := Value.type "tuple", data := Data.seq #[] }
noncomputable def ob280 (P : Params) : Obj := { cls := Value.none, data := Data.fields #[] }
noncomputable def ob264 (P : Params) : Obj := { cls := Value.type "function", data := Data.func (FuncData.mk (Str.ofString "passed") (Str.ofString "Count.passed") (fdP (inC (sAt 14) 2)) (.stmts (fdB (inC (sAt 14) 2))) (fdS (inC (sAt 14) 2)) (3) ([]) (Value.none) (Value.none) (Value.none) (Value.str (Str.ofString "paperhold.lzw") 380) (none) (Value.ref 215) (Value.none) (0)) }
noncomputable def ob230 (P : Params) : Obj := { cls := Value.type "type", data := Data.cls { name := Str.ofString "Sizes", bases := [Value.type "object"], mro := [Value.ref 184, Value.type "object"], ns := 183, qualname := Str.ofString "Sizes" }, slots := #[none, none, some (Value.str (Str.ofString "Sizes") 386), some (Value.str (Str.ofString "Sizes") 394), some (Value.builtin "object.__new__"), some (Value.bool true)] }
noncomputable def ob298 (P : Params) : Obj := { cls := Value.type "code", data := Data.fields #[Value.str (Str.ofString "law") 514, Value.str (Str.ofString "law") 515, Value.str (Str.ofString "/claim/cut.py") 516, Value.int 132 0, Value.int 1 0, Value.int 0 0, Value.int 0 0, Value.int 3 0, Value.ref 245, Value.bool true, Value.int 181 0, Value.ref 246, Value.none, Value.none, Value.none, Value.ref 247, Value.int 517 0, Value.int 132 0, Value.str (Str.ofString "/claim/cut.py") 518] }
noncomputable def ob294 (P : Params) : Obj := { cls := Value.none, data := Data.fields #[Value.int 1 0, Value.int 0 0, Value.ref 20, Value.int 5 0, Value.int 0 0, Value.ref 27, Value.int 14 0, Value.int 0 0, Value.ref 55, Value.int 18 0, Value.int 0 0, Value.ref 67, Value.int 20 0, Value.int 0 0, Value.ref 74, Value.int 23 0, Value.int 0 0, Value.ref 81, Value.int 48 0, Value.int 0 0, Value.ref 123, Value.int 74 0, Value.int 0 0, Value.ref 165, Value.int 88 0, Value.int 0 0, Value.ref 194, Value.int 106 0, Value.int 0 0, Value.ref 229, Value.int 113 0, Value.int 0 0, Value.ref 236, Value.int 124 0, Value.int 0 0, Value.ref 243, Value.int 132 0, Value.int 0 0, Value.ref 248] }
noncomputable def ob244 (P : Params) : Obj := { cls := Value.type "tuple", data := Data.seq #[] }
noncomputable def ob210 (P : Params) : Obj := { cls := Value.none, data := Data.fields #[Value.int 76 0, Value.int 4 0, Value.ref 173, Value.int 85 0, Value.int 4 0, Value.ref 180] }
noncomputable def ob276 (P : Params) : Obj := { cls := Value.none, data := Data.func (FuncData.mk (Str.ofString "write_codes") (Str.ofString "write_codes") (fdP (sAt 15)) (.stmts (fdB (sAt 15))) (fdS (sAt 15)) (0) ([]) (Value.none) (Value.none) (Value.none) (Value.none) (none) (Value.none) (Value.none) (0)) }
noncomputable def ob260 (P : Params) : Obj := { cls := Value.type "tuple", data := Data.seq #[Value.str (Str.ofString "self") 463, Value.str (Str.ofString "code") 464] }
noncomputable def ob226 (P : Params) : Obj := { cls := Value.type "code", data := Data.fields #[Value.str (Str.ofString "width") 409, Value.str (Str.ofString "Sizes.width") 410, Value.str (Str.ofString "/claim/cut.py") 411, Value.int 85 0, Value.int 2 0, Value.int 0 0, Value.int 0 0, Value.int 3 0, Value.ref 175, Value.bool true, Value.int 181 0, Value.ref 176, Value.none, Value.ref 177, Value.ref 178, Value.ref 179, Value.int 415 0, Value.int 85 0, Value.str (Str.ofString "/claim/cut.py") 416] }
noncomputable def ob292 (P : Params) : Obj := { cls := Value.type "function", data := Data.func (FuncData.mk (Str.ofString "_law_draw") (Str.ofString "_law_draw") (fdP (sAt 18)) (.stmts (fdB (sAt 18))) (fdS (sAt 18)) (3) ([]) (Value.none) (Value.none) (Value.none) (Value.str (Str.ofString "law_og0144_01") 502) (none) (Value.ref 243) (Value.none) (0)) }
noncomputable def ob252 (P : Params) : Obj := { cls := Value.none, data := Data.fields #[] }
noncomputable def ob218 (P : Params) : Obj := { cls := Value.none, data := Data.func (FuncData.mk (Str.ofString "__init__") (Str.ofString "Sizes.__init__") (fdP (inC (sAt 13) 0)) (.stmts (fdB (inC (sAt 13) 0))) (fdS (inC (sAt 13) 0)) (0) ([]) (Value.none) (Value.none) (Value.none) (Value.none) (none) (Value.none) (Value.none) (0)) }
noncomputable def ob284 (P : Params) : Obj := { cls := Value.type "code", data := Data.fields #[Value.str (Str.ofString "read_codes") 490, Value.str (Str.ofString "read_codes") 491, Value.str (Str.ofString "/claim/cut.py") 492, Value.int 113 0, Value.int 2 0, Value.int 0 0, Value.int 0 0, Value.int 3 0, Value.ref 231, Value.bool true, Value.int 181 0, Value.ref 232, Value.none, Value.ref 233, Value.ref 234, Value.ref 235, Value.int 499 0, Value.int 113 0, Value.str (Str.ofString "/claim/cut.py") 500] }
noncomputable def ob268 (P : Params) : Obj := { cls := Value.type "getset_descriptor", data := Data.fields #[Value.str (Str.ofString "__dict__") 472, Value.ref 219, Value.builtin "function.__dict__", Value.builtin "function.__dict__#set"] }
noncomputable def ob234 (P : Params) : Obj := { cls := Value.type "builtin_function_or_method", data := Data.fields #[Value.builtin "object.__init_subclass__", Value.ref 184] }
noncomputable def ob242 (P : Params) : Obj := { cls := Value.type "code", data := Data.fields #[Value.str (Str.ofString "Count") 435, Value.str (Str.ofString "Count") 436, Value.str (Str.ofString "/claim/cut.py") 437, Value.int 88 0, Value.int 0 0, Value.int 0 0, Value.int 0 0, Value.int 0 0, Value.ref 192, Value.bool false, Value.int 181 0, Value.ref 193, Value.none, Value.none, Value.none, Value.none, Value.int 438 0, Value.int 88 0, Value.str (Str.ofString "/claim/cut.py") 439] }
noncomputable def ob208 (P : Params) : Obj := { cls := Value.type "dict", data := Data.dict #[{ hash := PyData.keyHash P (Str.ofString "__module__"), key := Value.str (Str.ofString "__module__") 393, val := Value.str (Str.ofString "paperhold.lzw") 380 }, { hash := PyData.keyHash P (Str.ofString "__qualname__"), key := Value.str (Str.ofString "__qualname__") 395, val := Value.str (Str.ofString "Sizes") 394 }, { hash := PyData.keyHash P (Str.ofString "__firstlineno__"), key := Value.str (Str.ofString "__firstlineno__") 397, val := Value.int 74 396 }, { hash := PyData.keyHash P (Str.ofString "__init__"), key := Value.str (Str.ofString "__init__") 408, val := Value.ref 174 }, { hash := PyData.keyHash P (Str.ofString "width"), key := Value.str (Str.ofString "width") 417, val := Value.ref 181 }, { hash := PyData.keyHash P (Str.ofString "__static_attributes__"), key := Value.str (Str.ofString "__static_attributes__") 425, val := Value.ref 182 }] 6 }
noncomputable def ob274 (P : Params) : Obj := { cls := Value.type "tuple", data := Data.seq #[Value.str (Str.ofString "sizes") 482, Value.str (Str.ofString "codes") 483, Value.str (Str.ofString "target") 484, Value.str (Str.ofString "count") 485, Value.str (Str.ofString "code") 486] }
noncomputable def ob258 (P : Params) : Obj := { cls := Value.type "tuple", data := Data.seq #[] }
noncomputable def ob224 (P : Params) : Obj := { cls := Value.type "tuple", data := Data.seq #[] }
noncomputable def ob290 (P : Params) : Obj := { cls := Value.none, data := Data.func (FuncData.mk (Str.ofString "_law_draw") (Str.ofString "_law_draw") (fdP (sAt 18)) (.stmts (fdB (sAt 18))) (fdS (sAt 18)) (0) ([]) (Value.none) (Value.none) (Value.none) (Value.none) (none) (Value.none) (Value.none) (0)) }
noncomputable def ob250 (P : Params) : Obj := { cls := Value.type "function", data := Data.func (FuncData.mk (Str.ofString "__init__") (Str.ofString "Count.__init__") (fdP (inC (sAt 14) 0)) (.stmts (fdB (inC (sAt 14) 0))) (fdS (inC (sAt 14) 0)) (3) ([]) (Value.none) (Value.none) (Value.none) (Value.str (Str.ofString "paperhold.lzw") 380) (none) (Value.ref 201) (Value.none) (0)) }
noncomputable def ob216 (P : Params) : Obj := { cls := Value.type "tuple", data := Data.seq #[Value.str (Str.ofString "self") 402, Value.str (Str.ofString "bits") 403, Value.str (Str.ofString "widest") 404, Value.str (Str.ofString "early") 405] }
noncomputable def ob282 (P : Params) : Obj := { cls := Value.type "tuple", data := Data.seq #[] }
noncomputable def ob266 (P : Params) : Obj := { cls := Value.type "dict", data := Data.dict #[{ hash := PyData.keyHash P (Str.ofString "__module__"), key := Value.str (Str.ofString "__module__") 440, val := Value.str (Str.ofString "paperhold.lzw") 380 }, { hash := PyData.keyHash P (Str.ofString "__firstlineno__"), key := Value.str (Str.ofString "__firstlineno__") 444, val := Value.int 88 443 }, { hash := PyData.keyHash P (Str.ofString "__init__"), key := Value.str (Str.ofString "__init__") 452, val := Value.ref 202 }, { hash := PyData.keyHash P (Str.ofString "width"), key := Value.str (Str.ofString "width") 459, val := Value.ref 209 }, { hash := PyData.keyHash P (Str.ofString "passed"), key := Value.str (Str.ofString "passed") 467, val := Value.ref 216 }, { hash := PyData.keyHash P (Str.ofString "__static_attributes__"), key := Value.str (Str.ofString "__static_attributes__") 471, val := Value.ref 217 }, { hash := PyData.keyHash P (Str.ofString "__dict__"), key := Value.str (Str.ofString "__dict__") 473, val := Value.ref 220 }, { hash := PyData.keyHash P (Str.ofString "__weakref__"), key := Value.str (Str.ofString "__weakref__") 475, val := Value.ref 221 }, { hash := PyData.keyHash P (Str.ofString "__doc__"), key := Value.str (Str.ofString "__doc__") 476, val := Value.none }] 4 }
noncomputable def ob232 (P : Params) : Obj := { cls := Value.type "getset_descriptor", data := Data.fields #[Value.str (Str.ofString "__weakref__") 428, Value.ref 184, Value.builtin "ExceptionGroup.__weakref__", Value.none] }
noncomputable def ob246 (P : Params) : Obj := { cls := Value.type "tuple", data := Data.seq #[Value.str (Str.ofString "self") 448, Value.str (Str.ofString "sizes") 449] }
noncomputable def ob212 (P : Params) : Obj := { cls := Value.type "frame", slots := #[some (Value.ref 165), some (Value.ref 3), some (Value.ref 162), none, some (Value.str (Str.ofString "paperhold.lzw") 380), none, some (Value.ref 0)] }
noncomputable def ob278 (P : Params) : Obj := { cls := Value.type "function", data := Data.func (FuncData.mk (Str.ofString "write_codes") (Str.ofString "write_codes") (fdP (sAt 15)) (.stmts (fdB (sAt 15))) (fdS (sAt 15)) (3) ([]) (Value.none) (Value.none) (Value.none) (Value.str (Str.ofString "paperhold.lzw") 380) (none) (Value.ref 229) (Value.none) (0)) }
noncomputable def ob262 (P : Params) : Obj := { cls := Value.none, data := Data.func (FuncData.mk (Str.ofString "passed") (Str.ofString "Count.passed") (fdP (inC (sAt 14) 2)) (.stmts (fdB (inC (sAt 14) 2))) (fdS (inC (sAt 14) 2)) (0) ([]) (Value.none) (Value.none) (Value.none) (Value.none) (none) (Value.none) (Value.none) (0)) }
noncomputable def ob228 (P : Params) : Obj := { cls := Value.type "tuple", data := Data.seq #[Value.str (Str.ofString "bits") 418, Value.str (Str.ofString "clear") 419, Value.str (Str.ofString "early") 420, Value.str (Str.ofString "end") 421, Value.str (Str.ofString "first") 422, Value.str (Str.ofString "full") 423, Value.str (Str.ofString "widest") 424] }
noncomputable def ob296 (P : Params) : Obj := { cls := Value.none, data := Data.fields #[] }
noncomputable def ob254 (P : Params) : Obj := { cls := Value.type "tuple", data := Data.seq #[] }
noncomputable def ob220 (P : Params) : Obj := { cls := Value.type "function", data := Data.func (FuncData.mk (Str.ofString "__init__") (Str.ofString "Sizes.__init__") (fdP (inC (sAt 13) 0)) (.stmts (fdB (inC (sAt 13) 0))) (fdS (inC (sAt 13) 0)) (3) ([]) (Value.ref 167) (Value.none) (Value.none) (Value.str (Str.ofString "paperhold.lzw") 380) (none) (Value.ref 173) (Value.none) (0)) }
noncomputable def ob286 (P : Params) : Obj := { cls := Value.type "tuple", data := Data.seq #[] }
noncomputable def ob270 (P : Params) : Obj := { cls := Value.type "super", data := Data.fields #[Value.ref 219, Value.ref 219, Value.ref 219] }
noncomputable def ob238 (P : Params) : Obj := { cls := Value.type "builtin_function_or_method", data := Data.fields #[Value.builtin "type.__prepare__", Value.type "type"] }
noncomputable def tr299 (P : Params) : BT := (.node (boot_o_0 P) (.node (boot_o_1 P) (.node (ob293 P) (.node (boot_o_7 P) (.node (ob52 P) (.node (ob68 P) (.node (ob103 P) (.node (ob171 P) .nil .nil) (.node (ob239 P) .nil .nil)) (.node (ob137 P) (.node (ob203 P) .nil .nil) (.node (ob271 P) .nil .nil))) (.node (ob84 P) (.node (ob121 P) (.node (ob187 P) .nil .nil) (.node (ob255 P) .nil .nil)) (.node (ob153 P) (.node (ob221 P) .nil .nil) (.node (ob287 P) .nil .nil)))) (.node (ob60 P) (.node (ob76 P) (.node (ob111 P) (.node (ob179 P) .nil .nil) (.node (ob247 P) .nil .nil)) (.node (ob145 P) (.node (ob213 P) .nil .nil) (.node (ob279 P) .nil .nil))) (.node (ob95 P) (.node (ob129 P) (.node (ob195 P) .nil .nil) (.node (ob263 P) .nil .nil)) (.node (ob163 P) (.node (ob229 P) .nil .nil) (.node (ob297 P) .nil .nil))))) (.node (ob43 P) (.node (ob56 P) (.node (ob72 P) (.node (ob107 P) (.node (ob175 P) .nil .nil) (.node (ob243 P) .nil .nil)) (.node (ob141 P) (.node (ob209 P) .nil .nil) (.node (ob275 P) .nil .nil))) (.node (ob91 P) (.node (ob125 P) (.node (ob191 P) .nil .nil) (.node (ob259 P) .nil .nil)) (.node (ob157 P) (.node (ob225 P) .nil .nil) (.node (ob291 P) .nil .nil)))) (.node (ob64 P) (.node (ob80 P) (.node (ob115 P) (.node (ob183 P) .nil .nil) (.node (ob251 P) .nil .nil)) (.node (ob149 P) (.node (ob217 P) .nil .nil) (.node (ob283 P) .nil .nil))) (.node (ob99 P) (.node (ob133 P) (.node (ob199 P) .nil .nil) (.node (ob267 P) .nil .nil)) (.node (ob167 P) (.node (ob233 P) .nil .nil) .nil))))) (.node (boot_o_5 P) (.node (boot_o_9 P) (.node (ob54 P) (.node (ob70 P) (.node (ob105 P) (.node (ob173 P) .nil .nil) (.node (ob241 P) .nil .nil)) (.node (ob139 P) (.node (ob207 P) .nil .nil) (.node (ob273 P) .nil .nil))) (.node (ob86 P) (.node (ob123 P) (.node (ob189 P) .nil .nil) (.node (ob257 P) .nil .nil)) (.node (ob155 P) (.node (ob223 P) .nil .nil) (.node (ob289 P) .nil .nil)))) (.node (ob62 P) (.node (ob78 P) (.node (ob113 P) (.node (ob181 P) .nil .nil) (.node (ob249 P) .nil .nil)) (.node (ob147 P) (.node (ob215 P) .nil .nil) (.node (ob281 P) .nil .nil))) (.node (ob97 P) (.node (ob131 P) (.node (ob197 P) .nil .nil) (.node (ob265 P) .nil .nil)) (.node (ob165 P) (.node (ob231 P) .nil .nil) (.node (ob299 P) .nil .nil))))) (.node (ob45 P) (.node (ob58 P) (.node (ob74 P) (.node (ob109 P) (.node (ob177 P) .nil .nil) (.node (ob245 P) .nil .nil)) (.node (ob143 P) (.node (ob211 P) .nil .nil) (.node (ob277 P) .nil .nil))) (.node (ob93 P) (.node (ob127 P) (.node (ob193 P) .nil .nil) (.node (ob261 P) .nil .nil)) (.node (ob159 P) (.node (ob227 P) .nil .nil) (.node (ob295 P) .nil .nil)))) (.node (ob66 P) (.node (ob82 P) (.node (ob119 P) (.node (ob185 P) .nil .nil) (.node (ob253 P) .nil .nil)) (.node (ob151 P) (.node (ob219 P) .nil .nil) (.node (ob285 P) .nil .nil))) (.node (ob101 P) (.node (ob135 P) (.node (ob201 P) .nil .nil) (.node (ob269 P) .nil .nil)) (.node (ob169 P) (.node (ob237 P) .nil .nil) .nil)))))) (.node (ob49 P) (.node (boot_o_4 P) (.node (boot_o_8 P) (.node (ob53 P) (.node (ob69 P) (.node (ob104 P) (.node (ob172 P) .nil .nil) (.node (ob240 P) .nil .nil)) (.node (ob138 P) (.node (ob206 P) .nil .nil) (.node (ob272 P) .nil .nil))) (.node (ob85 P) (.node (ob122 P) (.node (ob188 P) .nil .nil) (.node (ob256 P) .nil .nil)) (.node (ob154 P) (.node (ob222 P) .nil .nil) (.node (ob288 P) .nil .nil)))) (.node (ob61 P) (.node (ob77 P) (.node (ob112 P) (.node (ob180 P) .nil .nil) (.node (ob248 P) .nil .nil)) (.node (ob146 P) (.node (ob214 P) .nil .nil) (.node (ob280 P) .nil .nil))) (.node (ob96 P) (.node (ob130 P) (.node (ob196 P) .nil .nil) (.node (ob264 P) .nil .nil)) (.node (ob164 P) (.node (ob230 P) .nil .nil) (.node (ob298 P) .nil .nil))))) (.node (ob294 P) (.node (ob57 P) (.node (ob73 P) (.node (ob108 P) (.node (ob176 P) .nil .nil) (.node (ob244 P) .nil .nil)) (.node (ob142 P) (.node (ob210 P) .nil .nil) (.node (ob276 P) .nil .nil))) (.node (ob92 P) (.node (ob126 P) (.node (ob192 P) .nil .nil) (.node (ob260 P) .nil .nil)) (.node (ob158 P) (.node (ob226 P) .nil .nil) (.node (ob292 P) .nil .nil)))) (.node (ob65 P) (.node (ob81 P) (.node (ob118 P) (.node (ob184 P) .nil .nil) (.node (ob252 P) .nil .nil)) (.node (ob150 P) (.node (ob218 P) .nil .nil) (.node (ob284 P) .nil .nil))) (.node (ob100 P) (.node (ob134 P) (.node (ob200 P) .nil .nil) (.node (ob268 P) .nil .nil)) (.node (ob168 P) (.node (ob234 P) .nil .nil) .nil))))) (.node (boot_o_6 P) (.node (boot_o_10 P) (.node (ob55 P) (.node (ob71 P) (.node (ob106 P) (.node (ob174 P) .nil .nil) (.node (ob242 P) .nil .nil)) (.node (ob140 P) (.node (ob208 P) .nil .nil) (.node (ob274 P) .nil .nil))) (.node (ob90 P) (.node (ob124 P) (.node (ob190 P) .nil .nil) (.node (ob258 P) .nil .nil)) (.node (ob156 P) (.node (ob224 P) .nil .nil) (.node (ob290 P) .nil .nil)))) (.node (ob63 P) (.node (ob79 P) (.node (ob114 P) (.node (ob182 P) .nil .nil) (.node (ob250 P) .nil .nil)) (.node (ob148 P) (.node (ob216 P) .nil .nil) (.node (ob282 P) .nil .nil))) (.node (ob98 P) (.node (ob132 P) (.node (ob198 P) .nil .nil) (.node (ob266 P) .nil .nil)) (.node (ob166 P) (.node (ob232 P) .nil .nil) .nil)))) (.node (ob46 P) (.node (ob59 P) (.node (ob75 P) (.node (ob110 P) (.node (ob178 P) .nil .nil) (.node (ob246 P) .nil .nil)) (.node (ob144 P) (.node (ob212 P) .nil .nil) (.node (ob278 P) .nil .nil))) (.node (ob94 P) (.node (ob128 P) (.node (ob194 P) .nil .nil) (.node (ob262 P) .nil .nil)) (.node (ob162 P) (.node (ob228 P) .nil .nil) (.node (ob296 P) .nil .nil)))) (.node (ob67 P) (.node (ob89 P) (.node (ob120 P) (.node (ob186 P) .nil .nil) (.node (ob254 P) .nil .nil)) (.node (ob152 P) (.node (ob220 P) .nil .nil) (.node (ob286 P) .nil .nil))) (.node (ob102 P) (.node (ob136 P) (.node (ob202 P) .nil .nil) (.node (ob270 P) .nil .nil)) (.node (ob170 P) (.node (ob238 P) .nil .nil) .nil)))))))
abbrev psM : Pos := { line := 20, col := 0, endLine := 22, endCol := 69 }
abbrev psN : Pos := { line := 73, col := 0, endLine := 73, endCol := 6 }
abbrev psZ : Pos := { line := 132, col := 0, endLine := 170, endCol := 38 }
theorem run1 (w : World) (os : OsState) : segRunT treeTable pg w 11 (some (.ref 6)) 1 599 ⟨tr0 w.params, 15, {}, #[], {}, 187, os⟩ (piecesOf ((behindTheImports pg).take 8) ev0 cd0 ps0 [topFrame ps0]) = some (.next, (⟨tr115 w.params, 76, {}, #[], {}, 272, os⟩ : SharedT), cd0, psM) := by kernel_rfl
theorem run2 (w : World) (os : OsState) : segRunT treeTable pg w 11 (some (.ref 6)) 1 667 (⟨tr115 w.params, 76, {}, #[], {}, 272, os⟩ : SharedT) (piecesOf (((behindTheImports pg).drop 8).take 5) ev0 cd0 psM [topFrame ps0]) = some (.next, (⟨tr203 w.params, 160, {}, #[], {}, 386, os⟩ : SharedT), cd0, psN) := by kernel_rfl
theorem run3 (w : World) (os : OsState) : segRunT treeTable pg w 11 (some (.ref 6)) 1 697 (⟨tr203 w.params, 160, {}, #[], {}, 386, os⟩ : SharedT) (piecesOf ((behindTheImports pg).drop 13) ev0 cd0 psN [topFrame ps0]) = some (.next, (⟨tr299 w.params, 250, {}, #[], {}, 520, os⟩ : SharedT), cd0, psZ) := by kernel_rfl
theorem run4 (w : World) (os : OsState) : topRun treeTable pg w 11 (some (.ref 6)) 2 (⟨tr299 w.params, 250, {}, #[], {}, 520, os⟩ : SharedT).abs ⟨doneF .next, cd0, psZ, [topFrame ps0]⟩ = some (⟨absHeap (tr299 w.params) 250 {}, #[], {}, 520, os⟩ : Shared) := by kernel_rfl
theorem run0 (w : World) (os : OsState) : topRun treeTable pg w 11 (some (.ref 6)) 1978 ⟨boot_heap w.params, #[], boot_drawn, boot_toks, os⟩ (topStub pg) = some (⟨absHeap (tr299 w.params) 250 {}, #[], {}, 520, os⟩ : Shared) := by
  have h3 := piece_app (segRun_of (run3 w os)) (piece_nil (run4 w os))
  rw [List.append_nil] at h3
  have h2 := piece_app (segRun_of (run2 w os)) h3
  have e2 : ((behindTheImports pg).drop 8).take 5 ++ (behindTheImports pg).drop 13 = (behindTheImports pg).drop 8 := by
    have := List.take_append_drop 5 ((behindTheImports pg).drop 8)
    rwa [List.drop_drop] at this
  rw [e2] at h2
  have h1 := piece_app (segRun_of (run1 w os)) h2
  rw [List.take_append_drop] at h1
  exact go_top (go0 w os) (piece_block (blk0 w os) h1)
theorem looks0 (w : World) (os : OsState) : (openSeen vw [Str.ofString "PaperError", Str.ofString "Sizes"] (importedModules pg.main.body) (fun s => xlAt vw [] s && recOk PySem.Challenge.rw_og0144_01.row.records s) true (⟨absHeap (tr299 w.params) 250 {}, #[], {}, 520, os⟩ : Shared)) = (openGood vw [Str.ofString "PaperError", Str.ofString "Sizes"]) := by kernel_rfl
theorem looks1 (w : World) (os : OsState) : (staticsOk (importedModules pg.main.body) (boot_heap w.params) (absHeap (tr299 w.params) 250 {}) && namesBound pg (absHeap (tr299 w.params) 250 {}) && gensDone (⟨absHeap (tr299 w.params) 250 {}, #[], {}, 520, os⟩ : Shared) && laidKept (boot_heap w.params) (absHeap (tr299 w.params) 250 {})) = true := by kernel_rfl
theorem pair3 {α β γ : Type} {a a' : α} {b b' : β} {c c' : γ} (x : a = a') (y : b = b') (z : c = c') : (a, b, c) = (a', b', c') := by rw [x, y, z]
theorem left0 {α : Type} {Yf : Shared → α} {Ya : World → α} (hY : ∀ (w : World) (os : OsState), Yf (⟨absHeap (tr299 w.params) 250 {}, #[], {}, 520, os⟩ : Shared) = Ya w) : LeftO pg vw [Str.ofString "PaperError", Str.ofString "Sizes"] (fun s => xlAt vw [] s && recOk PySem.Challenge.rw_og0144_01.row.records s) Yf Ya 4038 :=
  LeftO.of_pieces (H₁ := fun P => absHeap (tr299 P) 250 {}) (gs₁ := #[]) (d₁ := {}) (k₁ := 520) (M := 1978) op0 sz0 run0 (by decide) fun w => funext fun os => pair3 (looks1 w os) (looks0 w os) (hY w os)
local macro_rules | `(tactic| o_head $H) => `(tactic| (refine Mine.holdsC (q := vw) (loose := [Str.ofString "PaperError", Str.ofString "Sizes"]) (Xt := fun s => xlAt vw [] s && recOk PySem.Challenge.rw_og0144_01.row.records s) (XP := XL vw []) (Yf := Hook.obs $H) (Ya := Hook.val $H) (YP := Hook.says $H) (N := 4038) (left0 (fun w os => by kernel_rfl)) (Hook.of $H) (Hook.keeps $H) (fun s e => xl_of s (Bool.and_eq_true_iff.mp e).1) XL.keeps (by rfl) (by rfl) (by rfl) (fun s e => recFacts_of (Bool.and_eq_true_iff.mp e).2) (by rfl) (by decide +kernel) (by decide +kernel) ⟨rfl, rfl, rfl, rfl, rfl, by decide +kernel⟩ ?hw ?hc))
set_option maxHeartbeats 8000000 in
open_top hd for PySem.Challenge.rw_og0144_01
end Mine

namespace Mine
section
variable {prog : Program} {w : World} {A : Around} {E : Value → Shared → Prop} {a b n : Int} {t u : Tok} {H : Heap} {gn : Array GenState} {dr : Drawn} {k : Nat} {os : OsState} {Q : Value → Shared → Prop}
theorem g_add (h : ∀ x tk, Q (.int (a + b) x) ⟨H, gn, dr, tk, os⟩) : wpAny (model prog w) A (binaryOp .Add (.int a t) (.int b u)) Q E ⟨H, gn, dr, k, os⟩ := add_int (h _ _)
theorem g_sub (h : ∀ x tk, Q (.int (a - b) x) ⟨H, gn, dr, tk, os⟩) : wpAny (model prog w) A (binaryOp .Sub (.int a t) (.int b u)) Q E ⟨H, gn, dr, k, os⟩ := sub_int (h _ _)
theorem g_mul (hm : IntMulOk a b) (h : ∀ x tk, Q (.int (a * b) x) ⟨H, gn, dr, tk, os⟩) : wpAny (model prog w) A (binaryOp .Mult (.int a t) (.int b u)) Q E ⟨H, gn, dr, k, os⟩ := mul_int (h _ _) hm
theorem g_mod (hb : b ≠ 0) (h : ∀ x tk, Q (.int (a.fmod b) x) ⟨H, gn, dr, tk, os⟩) : wpAny (model prog w) A (binaryOp .Mod (.int a t) (.int b u)) Q E ⟨H, gn, dr, k, os⟩ := mod_int' hb (h _ _)
theorem g_div (hb : b ≠ 0) (hb1 : 0 ≤ b) (hb2 : b < 1000000) (h : ∀ x tk, Q (.int (a.fdiv b) x) ⟨H, gn, dr, tk, os⟩) : wpAny (model prog w) A (binaryOp .FloorDiv (.int a t) (.int b u)) Q E ⟨H, gn, dr, k, os⟩ := floordiv_int hb (h _ _) (Or.inl (PyProof.noPylong_small (by omega)))
theorem g_or (h : ∀ x tk, Q (.int (Builtin.bitOr a b) x) ⟨H, gn, dr, tk, os⟩) : wpAny (model prog w) A (binaryOp .BitOr (.int a t) (.int b u)) Q E ⟨H, gn, dr, k, os⟩ := or_int (h _ _)
theorem g_and (h : ∀ x tk, Q (.int (Builtin.bitAnd a b) x) ⟨H, gn, dr, tk, os⟩) : wpAny (model prog w) A (binaryOp .BitAnd (.int a t) (.int b u)) Q E ⟨H, gn, dr, k, os⟩ := and_int (h _ _)
theorem g_shl (hn : 0 ≤ n) (hn2 : n ≤ 1000000) (ha : a.natAbs < 2 ^ 64) (h : ∀ x tk, Q (.int (a * 2 ^ n.toNat) x) ⟨H, gn, dr, tk, os⟩) : wpAny (model prog w) A (binaryOp .LShift (.int a t) (.int n u)) Q E ⟨H, gn, dr, k, os⟩ := lshift_int_small hn hn2 ha (h _ _)
theorem g_shr (hn : 0 ≤ n) (h : ∀ x tk, Q (.int (a.fdiv (2 ^ n.toNat)) x) ⟨H, gn, dr, tk, os⟩) : wpAny (model prog w) A (binaryOp .RShift (.int a t) (.int n u)) Q E ⟨H, gn, dr, k, os⟩ := rshift_int hn (h _ _)
theorem g_pow (hn : 0 ≤ n) (hn2 : n ≤ 1000000) (ha : a.natAbs < 2 ^ 64) (h : ∀ x tk, Q (.int (a ^ n.toNat) x) ⟨H, gn, dr, tk, os⟩) : wpAny (model prog w) A (binaryOp .Pow (.int a t) (.int n u)) Q E ⟨H, gn, dr, k, os⟩ := pow_int_small hn hn2 ha (h _ _)
theorem g_shr0 (hn : 0 ≤ n) (ha : 0 ≤ a) (h : ∀ x tk, Q (.int (a / 2 ^ n.toNat) x) ⟨H, gn, dr, tk, os⟩) : wpAny (model prog w) A (binaryOp .RShift (.int a t) (.int n u)) Q E ⟨H, gn, dr, k, os⟩ :=
  g_shr hn fun x tk => by rw [Int.fdiv_eq_ediv_of_nonneg _ (Int.le_of_lt (Int.pow_pos (by decide)))]; exact h x tk
theorem g_or_sh {v : Int} {j : Nat} (ha : 0 ≤ a) (hv : 0 ≤ v) (hv1 : v < 2 ^ j) (h : ∀ x tk, Q (.int (a * 2 ^ j + v) x) ⟨H, gn, dr, tk, os⟩) : wpAny (model prog w) A (binaryOp .BitOr (.int (a * 2 ^ j) t) (.int v u)) Q E ⟨H, gn, dr, k, os⟩ :=
  g_or fun x tk => by rw [bitOr_sh j ha hv hv1]; exact h x tk
theorem g_and_mask {j : Nat} (ha : 0 ≤ a) (h : ∀ x tk, Q (.int (a % 2 ^ j) x) ⟨H, gn, dr, tk, os⟩) : wpAny (model prog w) A (binaryOp .BitAnd (.int a t) (.int (1 * 2 ^ j - 1) u)) Q E ⟨H, gn, dr, k, os⟩ :=
  g_and fun x tk => by rw [Int.one_mul, bitAnd_mask j ha]; exact h x tk
theorem g_shr1 (hn : 0 ≤ n) (ha : 0 ≤ a) (h : ∀ r x tk, r = a / 2 ^ n.toNat → Q (.int r x) ⟨H, gn, dr, tk, os⟩) : wpAny (model prog w) A (binaryOp .RShift (.int a t) (.int n u)) Q E ⟨H, gn, dr, k, os⟩ :=
  g_shr0 hn ha fun x tk => h _ x tk rfl
theorem g_or_sh1 {v : Int} {j : Nat} (ha : 0 ≤ a) (hv : 0 ≤ v) (hv1 : v < 2 ^ j) (h : ∀ r x tk, r = a * 2 ^ j + v → Q (.int r x) ⟨H, gn, dr, tk, os⟩) : wpAny (model prog w) A (binaryOp .BitOr (.int (a * 2 ^ j) t) (.int v u)) Q E ⟨H, gn, dr, k, os⟩ :=
  g_or_sh ha hv hv1 fun x tk => h _ x tk rfl
theorem g_bits (h : ∀ x tk, Q (.int (Builtin.Int.intBits a) x) ⟨H, gn, dr, tk, os⟩) : wpAny (model prog w) A (call (.builtin "int.bit_length") [.int a t]) Q E ⟨H, gn, dr, k, os⟩ := call_int_bit_length (h _ _)
end
theorem set2_gen {M : Model} {A : Around} {D : Addr} {k v : Int} {t u : Tok} {Q : Unit → Shared → Prop} {E : Value → Shared → Prop} {s : Shared} (hv : 0 ≤ v)
    (h : ∀ v' : Int, 0 ≤ v' → wpAny M A (setItem (.ref D) (.int k t) (.int v' u)) Q E s) : wpAny M A (setItem (.ref D) (.int k t) (.int v u)) Q E s := h v hv
noncomputable def wdZ (b wd e c : Int) : Int := max (b + 1) (min wd (Builtin.Int.intBits (c + e)))
theorem wdZ_eq (b wd e c : Int) : (if (if (Builtin.Int.intBits (c + e) : Int) < wd then (Builtin.Int.intBits (c + e) : Int) else wd) > b + 1 then (if (Builtin.Int.intBits (c + e) : Int) < wd then (Builtin.Int.intBits (c + e) : Int) else wd) else b + 1) = wdZ b wd e c := by
  unfold wdZ
  omega
theorem news_add1 {h₀ h : Heap} {L : Addr} {news : List (Addr × Obj)} {p : Addr × Obj} (N : News h₀ L h news) (hp : p ∈ news) : News h₀ L h (p :: news) := fun q hq => by
  rcases List.mem_cons.mp hq with rfl | h
  · exact N _ hp
  · exact N _ h
theorem news_tl {h₀ h : Heap} {L : Addr} {news : List (Addr × Obj)} {p : Addr × Obj} (N : News h₀ L h (p :: news)) : News h₀ L h news := fun q hq => N q (.tail _ hq)

theorem news_mid {h₀ h : Heap} {L : Addr} {news : List (Addr × Obj)} {p q r u : Addr × Obj} (N : News h₀ L h (p :: q :: r :: u :: news)) : News h₀ L h (p :: q :: news) := fun x hx => by
  rcases List.mem_cons.mp hx with rfl | hx
  · exact N _ (.head _)
  · rcases List.mem_cons.mp hx with rfl | hx
    · exact N _ (.tail _ (.head _))
    · exact N _ (.tail _ (.tail _ (.tail _ (.tail _ hx))))
theorem news_in2 {h₀ h : Heap} {L : Addr} {news : List (Addr × Obj)} {p q r u : Addr × Obj} (N : News h₀ L h (p :: news)) (hq : q ∈ news) (hr : r ∈ news) (hu : u ∈ news) : News h₀ L h (p :: q :: r :: u :: news) := fun x hx => by
  rcases List.mem_cons.mp hx with rfl | hx
  · exact N _ (.head _)
  · rcases List.mem_cons.mp hx with rfl | hx
    · exact N _ (.tail _ hq)
    · rcases List.mem_cons.mp hx with rfl | hx
      · exact N _ (.tail _ hr)
      · rcases List.mem_cons.mp hx with rfl | hx
        · exact N _ (.tail _ hu)
        · exact N _ (.tail _ hx)
theorem news_out2 {h₀ h : Heap} {L : Addr} {news : List (Addr × Obj)} {p q r u : Addr × Obj} (N : News h₀ L h (p :: q :: r :: u :: news)) : News h₀ L h (p :: news) := fun x hx => by
  rcases List.mem_cons.mp hx with rfl | hx
  · exact N _ (.head _)
  · exact N _ (.tail _ (.tail _ (.tail _ (.tail _ hx))))
theorem upd_mem {P : Addr} {o o' : Obj} : ∀ {news newsf pre post : List (Addr × Obj)}, Upd P o o' news newsf → news = pre ++ (P, o) :: post → (∀ p ∈ pre, p.1 ≠ P) → (∀ p ∈ post, p.1 ≠ P) → ∀ p ∈ newsf, p = (P, o') ∨ p ∈ pre ++ post := by
  intro news newsf pre post U
  induction U generalizing pre with
  | head hn =>
    intro e a b p hp
    cases pre with
    | nil =>
      simp only [List.nil_append, List.cons.injEq, true_and] at e ⊢
      subst e
      rcases List.mem_cons.mp hp with h | h
      · exact .inl h
      · exact .inr h
    | cons q pre =>
      simp only [List.cons_append, List.cons.injEq] at e
      obtain ⟨rfl, _⟩ := e
      exact absurd rfl (a _ (.head _))
  | tail hq U ih =>
    intro e a b p hp
    cases pre with
    | nil =>
      simp only [List.nil_append, List.cons.injEq] at e
      obtain ⟨rfl, _⟩ := e
      exact absurd rfl hq
    | cons q pre =>
      simp only [List.cons_append, List.cons.injEq] at e
      obtain ⟨rfl, e⟩ := e
      rcases List.mem_cons.mp hp with h | h
      · exact .inr (h ▸ .head _)
      · rcases ih e (fun p hp => a p (.tail _ hp)) b p h with h | h
        · exact .inl h
        · exact .inr (.tail _ h)

theorem upd_split {P : Addr} {o : Obj} {news : List (Addr × Obj)} : ∀ {newsf : Obj → List (Addr × Obj)}, (∀ o', Upd P o o' news (newsf o')) →
    ∃ own, OwnOff own [P] ∧ (∀ p ∈ own, p ∈ news) ∧ (P, o) ∈ news ∧ (∀ p ∈ news, p = (P, o) ∨ p ∈ own) ∧ ∀ (h₀ : Heap) L h o', News h₀ L h ((P, o') :: own) → News h₀ L h (newsf o') := by
  intro newsf U
  obtain ⟨pre, post, e1, e2, a, b⟩ := (U o).split
  refine ⟨pre ++ post, ?_, ?_, ?_, ?_, ?_⟩
  · intro p hp c hc
    rw [List.mem_singleton.mp hc]
    rcases List.mem_append.mp hp with h | h
    · exact a p h
    · exact b p h
  · intro p hp
    rw [e1]
    rcases List.mem_append.mp hp with h | h
    · exact List.mem_append.mpr (.inl h)
    · exact List.mem_append.mpr (.inr (.tail _ h))
  · rw [e1]; exact List.mem_append.mpr (.inr (.head _))
  · intro p hp
    rw [e1] at hp
    rcases List.mem_append.mp hp with h | h
    · exact .inr (List.mem_append.mpr (.inl h))
    · rcases List.mem_cons.mp h with h | h
      · exact .inl h
      · exact .inr (List.mem_append.mpr (.inr h))
  · intro h₀ L h o' N p hp
    have : p = (P, o') ∨ p ∈ pre ++ post := by
      have U' := U o'
      clear N
      exact upd_mem U' e1 a b p hp
    rcases this with rfl | h
    · exact N _ (.head _)
    · exact N _ (.tail _ h)
end Mine

namespace Mine
local macro_rules | `(tactic| k_room) => `(tactic| ktr_room)
local macro_rules | `(tactic| k_units) => `(tactic| ktr_units)
local macro_rules | `(tactic| walk_at "binaryOp Add int int") => `(tactic| ((with_reducible refine g_add ?_); intro _ _))
local macro_rules | `(tactic| walk_at "binaryOp Sub int int") => `(tactic| ((with_reducible refine g_sub ?_); intro _ _))
local macro_rules | `(tactic| walk_at "binaryOp Mult int int") => `(tactic| ((with_reducible refine g_mul ?hm ?_); (case hm => mul_fits); intro _ _))
local macro_rules | `(tactic| walk_at "binaryOp Mod int int") => `(tactic| ((with_reducible refine g_mod ?hm ?_); (case hm => omega); intro _ _))
local macro_rules | `(tactic| walk_at "binaryOp FloorDiv int int") => `(tactic| ((with_reducible refine g_div ?hm ?hm1 ?hm2 ?_); (case hm => omega); (case hm1 => omega); (case hm2 => omega); intro _ _))
local macro_rules | `(tactic| walk_at "binaryOp BitOr int int") => `(tactic| ((with_reducible refine g_or ?_); intro _ _))
local macro_rules | `(tactic| walk_at "binaryOp BitAnd int int") => `(tactic| ((with_reducible refine g_and ?_); intro _ _))
local macro_rules | `(tactic| walk_at "binaryOp LShift int int") => `(tactic| ((with_reducible refine g_shl ?hm ?hm1 ?hm2 ?_); (case hm => omega); (case hm1 => omega); (case hm2 => first | decide | omega); intro _ _))
local macro_rules | `(tactic| walk_at "binaryOp RShift int int") => `(tactic| ((with_reducible refine g_shr ?hm ?_); (case hm => omega); intro _ _))
local macro_rules | `(tactic| walk_at "binaryOp Pow int int") => `(tactic| ((with_reducible refine g_pow ?hm ?hm1 ?hm2 ?_); (case hm => omega); (case hm1 => omega); (case hm2 => decide); intro _ _))
local macro_rules | `(tactic| walk_at "call builtin:int.bit_length") => `(tactic| ((with_reducible refine g_bits ?_); intro _ _))
local macro_rules | `(tactic| walk_at $s:str) => `(tactic| k_extra $s)
local macro_rules | `(tactic| k_steps) => `(tactic| repeat' ((fail_if_success (k_extra "stop")); first | (k_unfold; (try dsimp only)) | (k_end; wrow_close) | walk1 | (dsimp only; walk1) | (leave1; walk_say "STEP leave1"; try dsimp only) | fail "no step"))
local macro_rules | `(tactic| walk_at "codeC") => `(tactic| (k_here; k_dflt (refine' codeC_def ?k1 ?k2 ?k3 ?k4 ?k5 ?kA ?kF ?kK ?k6 ?k7 ?k8 ?k9 ?kB ?_ ?c2 ?c3 ?c4 ?c5; (case kA => exact rfl); (case kF => exact rfl); (case kK => exact rfl); (case k1 => k_asm); (case k2 => k_asm); (case k3 => k_asm); (case k4 => k_asm); (case k5 => k_asm); (case k6 => k_is); (case k7 => k_is); (case k8 => ktr_room); (case k9 => exact BindsTo.of_eq rfl); (case c5 => decide); (case kB => exact locs rfl); (case c2 => exact rfl); (case c3 => exact rfl); (case c4 => exact rfl)); intro g' L' h' FG' F' N' B' X' T'; (try dsimp only)))

theorem fdiv_nn {a b : Int} (ha : 0 ≤ a) (hb : 0 < b) : 0 ≤ a.fdiv b := Int.fdiv_nonneg ha (by omega)
set_option maxRecDepth 100000 in
set_option maxHeartbeats 4000000 in
theorem draw_ok {w : World} {mean : ExcName → Option Value} {mg mb : Str → Option Value} {dp un : Nat} {gd : Option (List Code)} {cn : Str} {cs : Scope} {a : Addr} {ccd : Value} {cl : List (Str × Addr)} {outer : List Env} {A₀ : Around} {base h₀ : Heap} {L : Addr} {m : Str → Option Value}
    {P C : Addr} {own : List (Addr × Obj)} {cells : List Value} {ns : List Int} {n₁ n₂ : Nat} {i d : Int} {ti td : Tok} {many : Int} {tm : Tok} {s : Shared} {Q E : Value → Shared → Prop}
    (B : Below A₀ base outer h₀) (F : Fr h₀ L s.heap m) (X : (hd.heap_39 w.params).In h₀) (N : News h₀ L s.heap ((P, listOf [Value.ref C, .int i ti, .int d td].toArray n₁) :: (C, listOf cells.toArray n₂) :: own))
    (T : Top vw (looseW vw [Str.ofString "PaperError", Str.ofString "Sizes"]) mean mg mb h₀) (hk : cs.kind = .function)
    (hoff : OwnOff own [P]) (hPC : C ≠ P) (hi : IntsAre cells ns) (hl0 : 2 ≤ ns.length) (hl1 : ns.length < 100)
    (hi0 : 0 ≤ i) (hi1 : i < 1000) (hd0 : 0 ≤ d) (hm : 1 ≤ many) (hm2 : many < 1000) (hdp : dp + 10 < recursionLimit) (hun : un + 100 < cLine)
    (ret : ∀ h' tk' i' d' r tr ti' td', Fr h₀ L h' m → News h₀ L h' ((P, listOf [Value.ref C, .int i' ti', .int d' td'].toArray n₁) :: (C, listOf cells.toArray n₂) :: own) →
      0 ≤ r → r < many → i ≤ i' → i' ≤ i + 1 → 0 ≤ d' → Q (.int r tr) { s with heap := h', toks := tk' }) :
    wpAny (model PySem.Challenge.rw_og0144_01.row.prog w) (ktrTop dp un gd cn cs L a ccd cl outer) (call (.ref 244) [.ref P, .int many tm]) Q E s := by
  revert X
  k_fill
  intro X
  k_with_none
  have hpp : 0 ≤ 7919 * (i + 1) * (i + 1) := Int.mul_nonneg (Int.mul_nonneg (by decide) (by omega)) (by omega)
  k_with "setItem ref int" => ((with_reducible show wpAny _ _ (setItem (Value.ref _) (Value.int 2 _) (Value.int (_ + _) _)) _ _ _); refine set2_gen ?hv ?_; (case hv => (split <;> omega)); intro d' hd')
  refine wpAny_call ?_
  k_dflt ktr_enter
  k_steps
  all_goals (refine ret _ _ _ _ _ _ _ _ (by k_asm) (by k_asm) ?_ ?_ ?_ ?_ ?_)
  all_goals (first | omega | exact Int.fmod_nonneg_of_pos _ (by omega) | exact Int.fmod_lt_of_pos _ (by omega) | exact fdiv_nn (by omega) (by omega))



theorem draw_use {w : World} {mean : ExcName → Option Value} {mg mb : Str → Option Value} {dp un : Nat} {gd : Option (List Code)} {cn : Str} {cs : Scope} {a : Addr} {ccd : Value} {cl : List (Str × Addr)} {outer : List Env} {A₀ : Around} {base h₀ : Heap} {L : Addr} {m : Str → Option Value}
    {P C : Addr} {news : List (Addr × Obj)} {newsf : Obj → List (Addr × Obj)} {cells : List Value} {ns : List Int} {n₁ n₂ : Nat} {i d : Int} {ti td : Tok} {many : Int} {tm : Tok} {s : Shared} {Q E : Value → Shared → Prop}
    (B : Below A₀ base outer h₀) (F : Fr h₀ L s.heap m) (X : (hd.heap_39 w.params).In h₀) (N : News h₀ L s.heap news)
    (T : Top vw (looseW vw [Str.ofString "PaperError", Str.ofString "Sizes"]) mean mg mb h₀) (hk : cs.kind = .function)
    (U : ∀ o', Upd P (listOf [Value.ref C, .int i ti, .int d td].toArray n₁) o' news (newsf o')) (hC : (C, listOf cells.toArray n₂) ∈ news) (hi : IntsAre cells ns) (hl0 : 2 ≤ ns.length) (hl1 : ns.length < 100)
    (hi0 : 0 ≤ i) (hi1 : i < 1000) (hd0 : 0 ≤ d) (hm : 1 ≤ many) (hm2 : many < 1000) (hdp : dp + 10 < recursionLimit) (hun : un + 100 < cLine)
    (ret : ∀ h' tk' i' d' r tr ti' td', Fr h₀ L h' m → News h₀ L h' (newsf (listOf [Value.ref C, .int i' ti', .int d' td'].toArray n₁)) →
      0 ≤ r → r < many → i ≤ i' → i' ≤ i + 1 → 0 ≤ d' → Q (.int r tr) { s with heap := h', toks := tk' }) :
    wpAny (model PySem.Challenge.rw_og0144_01.row.prog w) (ktrTop dp un gd cn cs L a ccd cl outer) (call (.ref 244) [.ref P, .int many tm]) Q E s := by
  obtain ⟨own, ho, hs, hP, hin, back⟩ := upd_split U
  have hPC : C ≠ P := by
    intro e
    subst e
    have h1 := (N _ hP).1
    have h2 := (N _ hC).1
    rw [h1] at h2
    have h3 := congrArg (fun o : Option Obj => o.map (·.data)) h2
    simp only [Option.map_some, Option.some.injEq, Data.seq.injEq] at h3
    have h4 := h3.1
    have h5 := congrArg Array.toList h4
    simp only [List.toList_toArray] at h5
    subst h5
    cases hi
  refine draw_ok (own := own) (n₁ := n₁) (n₂ := n₂) (ti := ti) (td := td) B F X (fun p hp => ?_) T hk ho hPC hi hl0 hl1 hi0 hi1 hd0 hm hm2 hdp hun (fun h' tk' i' d' r tr ti' td' F' N' => ret h' tk' i' d' r tr ti' td' F' (back _ _ _ _ fun p hp => N' p ?_))
  · rcases List.mem_cons.mp hp with h | hp
    · rw [h]; exact N _ hP
    · rcases List.mem_cons.mp hp with h | hp
      · rw [h]; exact N _ hC
      · exact N _ (hs _ hp)
  · rcases List.mem_cons.mp hp with h | hp
    · rw [h]; exact .head _
    · exact .tail _ (.tail _ hp)


abbrev ent (w : World) (x : String) (tk : Tok) (v : Value) : DictEntry := ⟨PyData.keyHash w.params (Str.ofString x), .str (Str.ofString x) tk, v⟩
abbrev szObj (w : World) (b wd e : Int) (t : Nat → Tok) : Obj := dictOf [ent w "bits" (t 0) (.int b (t 1)), ent w "widest" (t 2) (.int wd (t 3)), ent w "early" (t 4) (.int e (t 5)), ent w "clear" (t 6) (.int (2 ^ b.toNat) (t 7)), ent w "end" (t 8) (.int (2 ^ b.toNat + 1) (t 9)), ent w "first" (t 10) (.int (2 ^ b.toNat + 2) (t 11)), ent w "full" (t 12) (.int (2 ^ wd.toNat) (t 13))] 7
section
variable {w : World} {mean : ExcName → Option Value} {mg mb : Str → Option Value} {dp un : Nat} {gd : Option (List Code)} {cn : Str} {cnm : List (Str × NameKind)} {cig cic : Bool} {cmo : List (Str × Const)} {a : Addr} {ccd : Value} {cl : List (Str × Addr)} {outer : List Env} {A₀ : Around} {base h₀ : Heap} {L : Addr} {m : Str → Option Value} {s : Shared} {Q E : Value → Shared → Prop} {news : List (Addr × Obj)}
  (B : Below A₀ base outer h₀) (F : Fr h₀ L s.heap m) (X : (hd.heap_39 w.params).In h₀) (T : Top vw (looseW vw [Str.ofString "PaperError", Str.ofString "Sizes"]) mean mg mb h₀) (hdp : dp + 10 < recursionLimit) (hun : un + 100 < cLine)
include B F X T hdp hun
set_option maxRecDepth 100000 in
set_option maxHeartbeats 4000000 in
theorem sizes_new {b wd e : Int} {tb tw te : Tok} (N : News h₀ L s.heap news) (hb0 : 2 ≤ b) (hb1 : b ≤ 4) (hw0 : b + 1 ≤ wd) (hw1 : wd ≤ b + 3)
    (ret : ∀ h' tk' S dS t, Fr h₀ L h' m → News h₀ L h' ((S, instObj 184 dS) :: (dS, szObj w b wd e t) :: news) → (∀ p ∈ news, p.1 < dS) → dS < S → Q (.ref S) { s with heap := h', toks := tk' }) :
    wpAny (model PySem.Challenge.rw_og0144_01.row.prog w) (ktrTop dp un gd cn ⟨.function, cnm, cig, cic, cmo⟩ L a ccd cl outer) (call (.ref 184) [.int b tb, .int wd tw, .int e te]) Q E s := by
  revert X
  k_fill
  intro X
  k_with_none
  k_steps
  rename Fr _ _ _ _ => kF
  rename News _ _ _ _ => kN
  simp only [Int.one_mul] at kN
  exact ret _ _ _ _ (fun n => [_, _, _, _, _, _, _, _, _, _, _, _, _, _].getD n 0) kF kN (by assumption) (by omega)

abbrev coObj (w : World) (S : Addr) (c : Int) (g : Bool) (t : Nat → Tok) : Obj := dictOf [ent w "sizes" (t 0) (.ref S), ent w "count" (t 1) (.int c (t 2)), ent w "is_begun" (t 3) (.bool g)] 3
set_option maxRecDepth 100000 in
set_option maxHeartbeats 4000000 in
theorem count_new {b wd e : Int} {S dS : Addr} {t : Nat → Tok} (N : News h₀ L s.heap news) (hS : (S, instObj 184 dS) ∈ news) (hdS : (dS, szObj w b wd e t) ∈ news)
    (ret : ∀ h' tk' W dW t, Fr h₀ L h' m → News h₀ L h' ((W, instObj 219 dW) :: (dW, coObj w S (2 ^ b.toNat + 2) false t) :: news) → (∀ p ∈ news, p.1 < dW) → dW < W → Q (.ref W) { s with heap := h', toks := tk' }) :
    wpAny (model PySem.Challenge.rw_og0144_01.row.prog w) (ktrTop dp un gd cn ⟨.function, cnm, cig, cic, cmo⟩ L a ccd cl outer) (call (.ref 219) [.ref S]) Q E s := by
  revert X
  k_fill
  intro X
  k_with_none
  have N2 := news_add1 (news_add1 N hdS) (List.Mem.tail _ hS)
  clear N
  k_steps
  rename Fr _ _ _ _ => kF
  rename News _ _ _ _ => kN
  have hlt : ∀ (p : Addr × Obj), p ∈ (S, instObj 184 dS) :: (dS, szObj w b wd e t) :: news → p.1 < _ := ktn_ltOf (by (simp only [AllLt]; assumption))
  exact ret _ _ _ _ (fun n => [_, _, _, _].getD n 0) kF (news_mid kN) (fun p hp => hlt p (.tail _ (.tail _ hp))) (by omega)

set_option maxRecDepth 100000 in
set_option maxHeartbeats 4000000 in
theorem swidth_ok {b wd e c : Int} {tc : Tok} {S dS : Addr} {t : Nat → Tok} (N : News h₀ L s.heap news) (hS : (S, instObj 184 dS) ∈ news) (hdS : (dS, szObj w b wd e t) ∈ news)
    (ret : ∀ h' tk' t, Fr h₀ L h' m → News h₀ L h' news → Q (.int (wdZ b wd e c) t) { s with heap := h', toks := tk' }) :
    wpAny (model PySem.Challenge.rw_og0144_01.row.prog w) (ktrTop dp un gd cn ⟨.function, cnm, cig, cic, cmo⟩ L a ccd cl outer) (call (.ref 181) [.ref S, .int c tc]) Q E s := by
  revert X
  k_fill
  intro X
  k_with_none
  k_steps
  rename Fr _ _ _ _ => kF
  rename News _ _ _ _ => kN
  rw [wdZ_eq]
  exact ret _ _ _ kF kN

set_option maxRecDepth 100000 in
set_option maxHeartbeats 4000000 in
theorem width_ok {b wd e c : Int} {g : Bool} {W dW S dS : Addr} {t t' : Nat → Tok} (N : News h₀ L s.heap news) (hW : (W, instObj 219 dW) ∈ news) (hdW : (dW, coObj w S c g t') ∈ news) (hS : (S, instObj 184 dS) ∈ news) (hdS : (dS, szObj w b wd e t) ∈ news)
    (ret : ∀ h' tk' t, Fr h₀ L h' m → News h₀ L h' news → Q (.int (wdZ b wd e c) t) { s with heap := h', toks := tk' }) :
    wpAny (model PySem.Challenge.rw_og0144_01.row.prog w) (ktrTop dp un gd cn ⟨.function, cnm, cig, cic, cmo⟩ L a ccd cl outer) (call (.ref 209) [.ref W]) Q E s := by
  revert X
  k_fill
  intro X
  k_with_none
  k_steps
  rename Fr _ _ _ _ => kF
  rename News _ _ _ _ => kN
  rw [wdZ_eq]
  exact ret _ _ _ kF kN

set_option maxRecDepth 100000 in
set_option maxHeartbeats 4000000 in
theorem passed_ok {b wd e c code : Int} {g : Bool} {tc : Tok} {W dW S dS : Addr} {t t' : Nat → Tok} (hb0 : 2 ≤ b) (N : News h₀ L s.heap ((dW, coObj w S c g t') :: news)) (ho : OwnOff news [dW]) (hW : (W, instObj 219 dW) ∈ news) (hS : (S, instObj 184 dS) ∈ news) (hdS : (dS, szObj w b wd e t) ∈ news)
    (ret : ∀ h' tk' t' c' g', Fr h₀ L h' m → News h₀ L h' ((dW, coObj w S c' g' t') :: news) → (c', g') = (if code = 2 ^ b.toNat then (2 ^ b.toNat + 2, false) else if g = true ∧ c < 2 ^ wd.toNat then (c + 1, true) else (c, true)) → Q .none { s with heap := h', toks := tk' }) :
    wpAny (model PySem.Challenge.rw_og0144_01.row.prog w) (ktrTop dp un gd cn ⟨.function, cnm, cig, cic, cmo⟩ L a ccd cl outer) (call (.ref 216) [.ref W, .int code tc]) Q E s := by
  revert X
  k_fill
  intro X
  k_with_none
  have e1 : W ≠ dW := ho _ hW _ (.head _)
  have e2 : S ≠ dW := ho _ hS _ (.head _)
  have e3 : dS ≠ dW := ho _ hdS _ (.head _)
  have N2 : News h₀ L s.heap ((dW, coObj w S c g t') :: (W, instObj 219 dW) :: (S, instObj 184 dS) :: (dS, szObj w b wd e t) :: news) := news_in2 N hW hS hdS
  clear N
  k_steps
  all_goals (rename Fr _ _ _ _ => kF; rename News _ _ _ _ => kN; refine ret _ _ (fun n => [_, _, _, _].getD n 0) _ _ kF (news_out2 kN) ?_)
  all_goals (clear B F X T ret N2)
  all_goals (first | (simp [*]; done) | (simp_all; done))

theorem passed_use {b wd e c code : Int} {g : Bool} {tc : Tok} {W dW S dS : Addr} {t t' : Nat → Tok} {newsf : Obj → List (Addr × Obj)} (hb0 : 2 ≤ b) (N : News h₀ L s.heap news) (U : ∀ o', Upd dW (coObj w S c g t') o' news (newsf o')) (hW : (W, instObj 219 dW) ∈ news) (hS : (S, instObj 184 dS) ∈ news) (hdS : (dS, szObj w b wd e t) ∈ news)
    (ret : ∀ h' tk' t' c' g', Fr h₀ L h' m → News h₀ L h' (newsf (coObj w S c' g' t')) → (c', g') = (if code = 2 ^ b.toNat then (2 ^ b.toNat + 2, false) else if g = true ∧ c < 2 ^ wd.toNat then (c + 1, true) else (c, true)) → Q .none { s with heap := h', toks := tk' }) :
    wpAny (model PySem.Challenge.rw_og0144_01.row.prog w) (ktrTop dp un gd cn ⟨.function, cnm, cig, cic, cmo⟩ L a ccd cl outer) (call (.ref 216) [.ref W, .int code tc]) Q E s := by
  obtain ⟨own, ho, hs, hP, hin, back⟩ := upd_split U
  have i1 := (hin _ hW).resolve_left (by intro e; cases e)
  have i2 := (hin _ hS).resolve_left (by intro e; cases e)
  have i3 := (hin _ hdS).resolve_left (by
    intro e
    have h := congrArg (fun p : Addr × Obj => match p.2.data with | .dict es _ => es.size | _ => 0) e
    simp at h)
  refine passed_ok (t' := t') (c := c) (g := g) B F X T hdp hun hb0 (news := own) (fun p hp => ?_) ho i1 i2 i3 (fun h' tk' t' c' g' F' N' q => ret h' tk' t' c' g' F' (back _ _ _ _ N') q)
  rcases List.mem_cons.mp hp with h | hp
  · rw [h]; exact N _ hP
  · exact N _ (hs _ hp)
end


section
variable {w : World} {mean : ExcName → Option Value} {mg mb : Str → Option Value} {dp un : Nat} {gd : Option (List Code)} {cn : Str} {cnm : List (Str × NameKind)} {cig cic : Bool} {cmo : List (Str × Const)} {a : Addr} {ccd : Value} {cl : List (Str × Addr)} {outer : List Env} {A₀ : Around} {base h₀ : Heap} {L : Addr} {m : Str → Option Value} {s : Shared} {Q E : Value → Shared → Prop} {news : List (Addr × Obj)}
  (B : Below A₀ base outer h₀) (F : Fr h₀ L s.heap m) (X : (hd.heap_39 w.params).In h₀) (T : Top vw (looseW vw [Str.ofString "PaperError", Str.ofString "Sizes"]) mean mg mb h₀) (hdp : dp + 10 < recursionLimit) (hun : un + 100 < cLine)
include B F X T hdp hun

set_option maxRecDepth 100000 in
set_option maxHeartbeats 4000000 in
theorem low_ok {v n : Int} {tv tn : Tok} (N : News h₀ L s.heap news) (hv : 0 ≤ v) (hn : 0 ≤ n) (hn1 : n ≤ 1000)
    (ret : ∀ h' tk' t, Fr h₀ L h' m → News h₀ L h' news → Q (.int (v % 2 ^ n.toNat) t) { s with heap := h', toks := tk' }) :
    wpAny (model PySem.Challenge.rw_og0144_01.row.prog w) (ktrTop dp un gd cn ⟨.function, cnm, cig, cic, cmo⟩ L a ccd cl outer) (call (.ref 68) [.int v tv, .int n tn]) Q E s := by
  revert X
  k_fill
  intro X
  k_with_none
  k_with_none
  k_with "binaryOp BitAnd int int" => ((with_reducible refine g_and_mask hv ?_); intro _ _)
  k_steps
  rename Fr _ _ _ _ => kF
  rename News _ _ _ _ => kN
  exact ret _ _ _ kF kN

set_option maxRecDepth 100000 in
set_option maxHeartbeats 4000000 in
theorem fit_ok {v n : Int} {tv tn : Tok} (N : News h₀ L s.heap news) (hv : 0 ≤ v) (hn : 0 ≤ n) (hv1 : v < 2 ^ n.toNat)
    (ret : ∀ h' tk', Fr h₀ L h' m → News h₀ L h' news → Q .none { s with heap := h', toks := tk' }) :
    wpAny (model PySem.Challenge.rw_og0144_01.row.prog w) (ktrTop dp un gd cn ⟨.function, cnm, cig, cic, cmo⟩ L a ccd cl outer) (call (.ref 75) [.int v tv, .int n tn]) Q E s := by
  revert X
  k_fill
  intro X
  k_with_none
  have hz : v / 2 ^ n.toNat = 0 := Int.ediv_eq_zero_of_lt hv hv1
  k_with_none
  k_with "binaryOp RShift int int" => ((with_reducible refine g_shr0 hn hv ?_); intro _ _; rw [hz])
  k_steps
  rename Fr _ _ _ _ => kF
  rename News _ _ _ _ => kN
  exact ret _ _ kF kN
end


abbrev baObj (b : Array UInt8) : Obj := { cls := .type "bytearray", data := .bytearray b }
abbrev outObj (w : World) (BA : Addr) (hd ct : Int) (t : Nat → Tok) : Obj := dictOf [ent w "made" (t 0) (.ref BA), ent w "held" (t 1) (.int hd (t 2)), ent w "count" (t 3) (.int ct (t 4))] 3
namespace FB
theorem ba_ga : typeLookup (.type "bytearray") "__getattribute__" = pure (some (.builtin "bytearray.__getattribute__")) := by rw [typeLookup_type, builtinLookup_eq_fast]; kernel_rfl
theorem ba_canon : Manifest.canonical "bytearray.__getattribute__" = "object.__getattribute__" := by decide +kernel
theorem ba_nga : typeLookup (.type "bytearray") "__getattr__" = pure none := by rw [typeLookup_type, builtinLookup_eq_fast]; kernel_rfl
theorem ba_tapp : typeOf (.builtin "bytearray.append") = pure (.type "method_descriptor") := by show builtinType _ = _; rw [builtinType_eq_fast]; kernel_rfl
end FB
theorem getMethod_ba {M : Model} {A : Around} {E : Value → Shared → Prop} {s : Shared} {h₀ : Heap} {L : Addr} {news : List (Addr × Obj)} {S : Addr} {b : Array UInt8} {pl : Sem Bool} {Q : Value × List Value → Shared → Prop} (N : News h₀ L s.heap news) (hm : (S, baObj b) ∈ news)
    (h : Q (.builtin "bytearray.append", [.ref S]) s) : wpAny M A (getMethod (.ref S) (Str.ofString "append") pl) Q E s := by
  have ho := (N _ hm).1
  have hT : s.TypeIs (.ref S) "bytearray" := ⟨_, ho, rfl⟩
  unfold getMethod
  refine wpAny_bind (wpAny_specialOf hT FB.ba_ga ?_)
  show wpAny M A (if (Manifest.canonical "bytearray.__getattribute__" != "object.__getattribute__") = true then _ else _) Q E s
  rw [FB.ba_canon, if_neg (by decide)]
  refine wpAny_bind (wpAny_specialOf hT FB.ba_nga ?_)
  refine wpAny_bind (wpAny_specialOf hT FB.ba_slot_append.lookup ?_)
  refine wpAny_bind (wpAny_of_eq FB.ba_tapp ?_)
  refine wpAny_bind (wpAny_load ho ?_)
  exact wpAny_bind (wpAny_rule (wpAny_pure h))
section
variable {prog : Program} {w : World} {A : Around} {E : Value → Shared → Prop} {s : Shared} {h₀ : Heap} {L : Addr} {m : Str → Option Value} {news : List (Addr × Obj)}
theorem ba_newK {Q : Value → Shared → Prop} (F : Fr h₀ L s.heap m) (N : News h₀ L s.heap news)
    (h : ∀ BA h', Fr h₀ L h' m → News h₀ L h' ((BA, baObj #[]) :: news) → (∀ p ∈ news, p.1 < BA) → Q (.ref BA) { s with heap := h' }) : wpC (model prog w) A (call (.type "bytearray") []) Q E s := by
  refine call_bytearray0 ?_
  have lt : ∀ p ∈ news, p.1 < s.heap.objs.size := fun p hp => Heap.lt_size (N p hp).1
  obtain ⟨U1, U2⟩ := news_upd (pre := []) (post := news) (o' := baObj #[]) (f := Obj.mapBytearray fun _ => #[]) (F.push (baObj #[])) (N.push F (baObj #[])) (fun _ h => nomatch h) (fun p hp => Nat.ne_of_lt (lt p hp)) rfl rfl
  exact h _ _ U1 U2 lt
theorem ba_appendK {S : Addr} {b : Array UInt8} {n : Int} {t : Tok} {newsf : Obj → List (Addr × Obj)} {Q : Value → Shared → Prop} (F : Fr h₀ L s.heap m) (N : News h₀ L s.heap news) (U : ∀ o', Upd S (baObj b) o' news (newsf o')) (h0 : 0 ≤ n) (h1 : n < 256) (hz : b.size < sizeLine)
    (h : ∀ h', Fr h₀ L h' m → News h₀ L h' (newsf (baObj (b.push n.toNat.toUInt8))) → Q .none { s with heap := h' }) : wpC (model prog w) A (call (.builtin "bytearray.append") [.ref S, .int n t]) Q E s := by
  obtain ⟨own, ho, hs, hP, hin, back⟩ := upd_split U
  refine call_append (N _ hP).1 h0 h1 hz ?_
  obtain ⟨U1, U2⟩ := news_upd (pre := []) (post := own) (o := baObj b) (o' := baObj (b.push n.toNat.toUInt8)) (f := Obj.mapBytearray (·.push n.toNat.toUInt8)) F (fun p hp => by
    rcases List.mem_cons.mp hp with rfl | hp
    · exact N _ hP
    · exact N _ (hs _ hp)) (fun _ h => nomatch h) (fun p hp => ho p hp _ (.head _)) rfl rfl
  exact h _ U1 (back _ _ _ _ U2)
end
section
variable {w : World} {mean : ExcName → Option Value} {mg mb : Str → Option Value} {dp un : Nat} {gd : Option (List Code)} {cn : Str} {cnm : List (Str × NameKind)} {cig cic : Bool} {cmo : List (Str × Const)} {a : Addr} {ccd : Value} {cl : List (Str × Addr)} {outer : List Env} {A₀ : Around} {base h₀ : Heap} {L : Addr} {m : Str → Option Value} {s : Shared} {Q E : Value → Shared → Prop} {news : List (Addr × Obj)}
  (B : Below A₀ base outer h₀) (F : Fr h₀ L s.heap m) (X : (hd.heap_39 w.params).In h₀) (T : Top vw (looseW vw [Str.ofString "PaperError", Str.ofString "Sizes"]) mean mg mb h₀) (hdp : dp + 10 < recursionLimit) (hun : un + 100 < cLine)
include B F X T hdp hun

set_option maxRecDepth 100000 in
set_option maxHeartbeats 4000000 in
theorem out_new (N : News h₀ L s.heap news)
    (ret : ∀ h' tk' O dO BA t, Fr h₀ L h' m → News h₀ L h' ((BA, baObj #[]) :: (O, instObj 155 dO) :: (dO, outObj w BA 0 0 t) :: news) → (∀ p ∈ news, p.1 < dO) → dO < O → O < BA → Q (.ref O) { s with heap := h', toks := tk' }) :
    wpC (model PySem.Challenge.rw_og0144_01.row.prog w) (ktrTop dp un gd cn ⟨.function, cnm, cig, cic, cmo⟩ L a ccd cl outer) (call (.ref 155) []) Q E s := by
  revert X
  k_fill
  intro X
  k_with_none
  k_with_none
  k_dflt (refine' call_clsC ?k1 ?k2 ?k3 ?k4 ?k5 ?k6 ?_; (case k1 => k_asm); (case k2 => k_asm); (case k3 => k_asm); (case k4 => k_is); (case k5 => k_is); (case k6 => k_is))
  intro O dO h' F' N' l1 l2
  k_lt2 l2
  walk1
  refine wpC_execs_cons (wpC_Assign_Attribute (wpC_Call_ ?_))
  k_fold
  k_steps
  refine wpC_callWith_type0 (ba_newK (by k_asm) (by k_asm) ?_)
  intro BA h' F' N' l3
  have l4 := ltN (l3 _ (.head _))
  have l5 := ltN (l3 _ (.tail _ (.head _)))
  dsimp only at l4 l5
  (with_reducible show wpAny _ _ _ _ _ _)
  k_fold
  k_steps
  refine wpC.of ?_
  k_fold
  k_steps
  rename Fr _ _ _ _ => kF
  rename News _ _ _ _ => kN
  exact ret _ _ _ _ _ (fun n => [_, _, _, _, _].getD n 0) kF kN l1 l2 l4
end


theorem pow_le_256 {n : Int} (h : n ≤ 8) : (2 : Int) ^ n.toNat ≤ 256 := by
  have h1 : n.toNat = 0 ∨ n.toNat = 1 ∨ n.toNat = 2 ∨ n.toNat = 3 ∨ n.toNat = 4 ∨ n.toNat = 5 ∨ n.toNat = 6 ∨ n.toNat = 7 ∨ n.toNat = 8 := by omega
  rcases h1 with e | e | e | e | e | e | e | e | e <;> rw [e] <;> decide
theorem news_drop3 {h₀ h : Heap} {L : Addr} {news : List (Addr × Obj)} {p q r : Addr × Obj} (N : News h₀ L h (p :: q :: r :: news)) : News h₀ L h (p :: q :: news) := fun x hx => by
  rcases List.mem_cons.mp hx with rfl | hx
  · exact N _ (.head _)
  · rcases List.mem_cons.mp hx with rfl | hx
    · exact N _ (.tail _ (.head _))
    · exact N _ (.tail _ (.tail _ (.tail _ hx)))
section
variable {w : World} {mean : ExcName → Option Value} {mg mb : Str → Option Value} {dp un : Nat} {gd : Option (List Code)} {cn : Str} {cnm : List (Str × NameKind)} {cig cic : Bool} {cmo : List (Str × Const)} {a : Addr} {ccd : Value} {cl : List (Str × Addr)} {outer : List Env} {A₀ : Around} {base h₀ : Heap} {L : Addr} {m : Str → Option Value} {s : Shared} {Q E : Value → Shared → Prop} {news : List (Addr × Obj)}
  (B : Below A₀ base outer h₀) (F : Fr h₀ L s.heap m) (X : (hd.heap_39 w.params).In h₀) (T : Top vw (looseW vw [Str.ofString "PaperError", Str.ofString "Sizes"]) mean mg mb h₀) (hdp : dp + 30 < recursionLimit) (hun : un + 300 < cLine)
include B F X T hdp hun

set_option maxRecDepth 100000 in
set_option maxHeartbeats 8000000 in
theorem put_ok {O dO BA : Addr} {b : Array UInt8} {hd ct v n : Int} {t : Nat → Tok} {tv tn : Tok} (N : News h₀ L s.heap ((dO, outObj w BA hd ct t) :: (BA, baObj b) :: news)) (hO : (O, instObj 155 dO) ∈ news) (ho : OwnOff news [dO, BA]) (hne : dO ≠ BA)
    (hc0 : 0 ≤ ct) (hc1 : ct < 8) (hd0 : 0 ≤ hd) (hd1 : hd < 2 ^ ct.toNat) (hv : 0 ≤ v) (hn : 0 ≤ n) (hn1 : n ≤ 8) (hv1 : v < 2 ^ n.toNat) (hz : b.size < 1000)
    (ret : ∀ h' tk' b' hd' ct' t', Fr h₀ L h' m → News h₀ L h' ((dO, outObj w BA hd' ct' t') :: (BA, baObj b') :: news) → PutR b hd ct v n b' hd' ct' → Q .none { s with heap := h', toks := tk' }) :
    wpC (model PySem.Challenge.rw_og0144_01.row.prog w) (ktrTop dp un gd cn ⟨.function, cnm, cig, cic, cmo⟩ L a ccd cl outer) (call (.ref 138) [.ref O, .int v tv, .int n tn]) Q E s := by
  revert X
  k_fill
  intro X
  k_with_none
  have e1 : O ≠ dO := ho _ hO _ (.head _)
  have e2 : O ≠ BA := ho _ hO _ (.tail _ (.head _))
  have e3 : BA ≠ dO := hne.symm
  have N2 : News h₀ L s.heap ((dO, outObj w BA hd ct t) :: (BA, baObj b) :: (O, instObj 155 dO) :: news) := fun p hp => by
    rcases List.mem_cons.mp hp with rfl | hp
    · exact N _ (.head _)
    · rcases List.mem_cons.mp hp with rfl | hp
      · exact N _ (.tail _ (.head _))
      · rcases List.mem_cons.mp hp with rfl | hp
        · exact N _ (.tail _ (.tail _ hO))
        · exact N _ (.tail _ (.tail _ hp))
  clear N
  have hp8 := pow_le_256 (n := ct) (by omega)
  have hlt : hd < 256 := by omega
  have hr0 : 0 ≤ hd * 2 ^ n.toNat + v := by
    have := Int.mul_nonneg hd0 (Int.le_of_lt (Int.pow_pos (by decide : (0 : Int) < 2) : (0 : Int) < 2 ^ n.toNat))
    omega
  k_with_none
  k_with "call ref" => ((with_reducible show wpAny _ _ (call (Value.ref 75) _) _ _ _); k_dflt (refine' fit_ok ?B ?F ?X ?T ?hdp ?hun ?N ?hv ?hn ?hv1 ?_; (case B => k_asm); (case F => k_asm); (case X => k_asm); (case T => k_asm); (case hdp => ktr_room); (case hun => ktr_units); (case N => k_asm); (case hv => assumption); (case hn => assumption); (case hv1 => assumption)); intro h' tk' F' N')
  k_with "binaryOp BitOr int int" => ((with_reducible refine g_or_sh1 hd0 hv hv1 ?_); intro H xH tkH hH)
  refine wpC_call ?_
  walk1
  refine wpC_execs_cons (wpC.of ?_)
  k_fold
  k_steps
  refine wpC_execs_cons (wpC.of ?_)
  k_fold
  k_steps
  refine wpC_execs_cons (wpC.of ?_)
  k_fold
  k_steps
  refine wpC_execs_cons (wpC_While (whl_turnC ?_))
  k_fold
  k_steps
  · rename decide _ = true => h8
    have h8' : 8 ≤ ct + n := of_decide_eq_true h8
    obtain ⟨pb0, pb1⟩ := put_byte hc0 hn hd0 hd1 hv hv1 h8'
    rw [← hH] at pb0 pb1
    have hH0 : 0 ≤ H := by omega
    k_with_none
    k_with "call ref" => ((with_reducible show wpAny _ _ (call (Value.ref 68) _) _ _ _); k_dflt (refine' low_ok ?B ?F ?X ?T ?hdp ?hun ?N ?hv ?hn ?hn1 ?_; (case B => k_asm); (case F => k_asm); (case X => k_asm); (case T => k_asm); (case hdp => ktr_room); (case hun => ktr_units); (case N => k_asm); (case hv => omega); (case hn => omega); (case hn1 => omega)); intro h' tk' tl F' N')
    k_with "binaryOp RShift int int" => ((with_reducible refine g_shr1 (by omega) (by omega) ?_); intro rb xb tkb hrb)
    refine wpC_execs_cons (wpC.of ?_)
    k_fold
    k_steps
    refine wpC_execs_cons (wpC_Expr (wpC_methodCall ?_))
    k_fold
    k_steps
    refine getMethod_ba (by k_asm) (by k_mem) ?_
    refine wpC_callWith_builtin1 ?_
    k_fold
    k_steps
    rw [← hrb] at pb0 pb1
    refine ba_appendK (by k_asm) (by k_asm) (fun o => by k_upd) pb0 pb1 (by rw [sizeLine_eq]; omega) ?_
    intro h5 F5 N5
    refine ⟨rfl, ?_⟩
    refine wpC_execs_cons (wpC.of ?_)
    k_fold
    k_steps
    refine wpC_execs_nil ?_
    refine whl_turnC ?_
    k_fold
    k_steps
    · rename decide _ = true => h9
      have h9' := of_decide_eq_true h9
      omega
    · refine wpC_execs_nil (wpC_execs_nil ?_)
      k_steps
      rename Fr _ _ _ _ => kF
      rename News _ _ _ _ => kN
      exact ret _ _ _ _ _ (fun n => [_, _, _, _, _].getD n 0) kF (news_drop3 kN) (.inr ⟨h8', by rw [hrb, hH], by rw [hH], rfl⟩)
  · rename decide _ = false => h8
    have h8' := of_decide_eq_false h8
    refine wpC_execs_nil (wpC_execs_nil ?_)
    k_steps
    rename Fr _ _ _ _ => kF
    rename News _ _ _ _ => kN
    exact ret _ _ _ _ _ (fun n => [_, _, _, _, _].getD n 0) kF (news_drop3 kN) (.inl ⟨by omega, rfl, hH, rfl⟩)
end


section
variable {w : World} {mean : ExcName → Option Value} {mg mb : Str → Option Value} {dp un : Nat} {gd : Option (List Code)} {cn : Str} {cnm : List (Str × NameKind)} {cig cic : Bool} {cmo : List (Str × Const)} {a : Addr} {ccd : Value} {cl : List (Str × Addr)} {outer : List Env} {A₀ : Around} {base h₀ : Heap} {L : Addr} {m : Str → Option Value} {s : Shared} {Q E : Value → Shared → Prop} {news : List (Addr × Obj)}
  (B : Below A₀ base outer h₀) (F : Fr h₀ L s.heap m) (X : (hd.heap_39 w.params).In h₀) (T : Top vw (looseW vw [Str.ofString "PaperError", Str.ofString "Sizes"]) mean mg mb h₀) (hdp : dp + 30 < recursionLimit) (hun : un + 300 < cLine)
include B F X T hdp hun

set_option maxRecDepth 100000 in
set_option maxHeartbeats 8000000 in
theorem octets_ok {O dO BA : Addr} {b : Array UInt8} {hd ct : Int} {t : Nat → Tok} (N : News h₀ L s.heap news) (hO : (O, instObj 155 dO) ∈ news) (hdO : (dO, outObj w BA hd ct t) ∈ news) (hBA : (BA, baObj b) ∈ news)
    (hc0 : 0 ≤ ct) (hc1 : ct < 8) (hd0 : 0 ≤ hd) (hd1 : hd < 2 ^ ct.toNat) (hz : b.size < 1000)
    (ret : ∀ h' tk' b' t', Fr h₀ L h' m → News h₀ L h' news → b' = (if ct = 0 then b else b.push (hd * 2 ^ (8 - ct).toNat).toNat.toUInt8) → Q (.bytes b' t') { s with heap := h', toks := tk' }) :
    wpAny (model PySem.Challenge.rw_og0144_01.row.prog w) (ktrTop dp un gd cn ⟨.function, cnm, cig, cic, cmo⟩ L a ccd cl outer) (call (.ref 152) [.ref O]) Q E s := by
  revert X
  k_fill
  intro X
  k_with_none
  have hp8 := pow_le_256 (n := ct) (by omega)
  have hlt : hd < 256 := by omega
  have hb256 : hd * 2 ^ (8 - ct).toNat < 256 := by
    have h := glue_lt (v := 0) (n := (8 - ct).toNat) hd1 (Int.pow_pos (by decide)) hd0
    have e : ct.toNat + (8 - ct).toNat = 8 := by omega
    rw [e] at h
    omega
  have hb0 : 0 ≤ hd * 2 ^ (8 - ct).toNat := by
    have h := glue_nn (n := (8 - ct).toNat) hd0 (Int.le_refl 0)
    omega
  k_with_none
  k_with "call type:bytes" => ((with_reducible show wpAny _ _ (call (Value.type "bytes") [Value.ref BA]) _ _ _); refine call_bytes_ba ((by assumption : News _ _ _ _) _ hBA).1 (by rw [sizeLine_eq]; omega) ?_; intro _ _)
  k_with "binaryOp Add bytes bytes" => (refine KBy.add_bytes (by simp only [List.size_toArray, Array.size_append, List.length_cons, List.length_nil, sizeLine_eq]; omega) ?_; intro _ _)
  k_steps
  · rename Fr _ _ _ _ => kF
    rename News _ _ _ _ => kN
    exact ret _ _ _ _ kF kN (by rw [if_pos (by assumption)])
  · rename Fr _ _ _ _ => kF
    rename News _ _ _ _ => kN
    exact ret _ _ _ _ kF (news_tl kN) (by rw [if_neg (by assumption)]; exact Array.push_eq_append.symm)
end


noncomputable def stepC (b w c : Int) (g : Bool) (code : Int) : Int × Bool := if code = 2 ^ b.toNat then (2 ^ b.toNat + 2, false) else if g = true ∧ c < 2 ^ w.toNat then (c + 1, true) else (c, true)
noncomputable def wlist (b w e c : Int) (g : Bool) : List Int → List (Int × Nat)
  | [] => []
  | x :: r => (x, (wdZ b w e c).toNat) :: wlist b w e (stepC b w c g x).1 (stepC b w c g x).2 r
noncomputable def WrJ (w : World) (b wd e : Int) (codes : List Int) (O dO BA W dW S : Addr) (news : List (Addr × Obj)) (m₀ : Str → Option Value) (i : Nat) (m : Str → Option Value) (nx : List (Addr × Obj)) : Prop :=
  ∃ (bb : Array UInt8) (hd ct c : Int) (g : Bool) (V : Int) (T : Nat) (t1 t2 : Nat → Tok), nx = (dO, outObj w BA hd ct t1) :: (BA, baObj bb) :: (dW, coObj w S c g t2) :: (O, instObj 155 dO) :: (W, instObj 219 dW) :: news ∧ (∀ y, y ≠ Str.ofString "code" → m y = m₀ y) ∧
    WR bb hd ct V T ∧ vnum V (wlist b wd e c g (codes.drop i)) = vnum 0 (wlist b wd e (2 ^ b.toNat + 2) false codes) ∧ T + tbits (wlist b wd e c g (codes.drop i)) = tbits (wlist b wd e (2 ^ b.toNat + 2) false codes) ∧ Fits (wlist b wd e c g (codes.drop i))
theorem fr_map {h₀ h : Heap} {L : Addr} {m m' : Str → Option Value} (F : Fr h₀ L h m) (e : ∀ y, m' y = m y) : Fr h₀ L h m' := by
  rw [show m' = m from funext e]; exact F
theorem lookup2 (y a b : Str) (v u : Value) : List.lookup y [(a, v), (b, u)] = if y = a then some v else if y = b then some u else none := by
  simp only [List.lookup_cons, List.lookup_nil]
  by_cases h1 : y = a
  · subst h1; simp
  · rw [if_neg h1, beq_eq_false_iff_ne.mpr h1]
    by_cases h2 : y = b
    · subst h2; simp
    · rw [if_neg h2, beq_eq_false_iff_ne.mpr h2]
theorem wr_nil : WR #[] 0 0 0 0 := ⟨by decide, by decide, by decide, by decide, by decide, by decide⟩
theorem wdZ_nn {b wd e c : Int} (hb : 2 ≤ b) : 0 ≤ wdZ b wd e c := by unfold wdZ; omega
theorem wr_size {b : Array UInt8} {hd ct V : Int} {T : Nat} (h : WR b hd ct V T) : 8 * b.size ≤ T := by
  obtain ⟨c0, c1, d0, d1, e, t⟩ := h
  omega
theorem tbits_le : ∀ (l : List (Int × Nat)), Fits l → tbits l ≤ 8 * l.length
  | [], _ => Nat.zero_le _
  | (x, n) :: r, h => by
    have h1 := (h _ (.head _)).2.2
    have h2 := tbits_le r fun p hp => h p (.tail _ hp)
    show n + tbits r ≤ 8 * (r.length + 1)
    dsimp only at h1
    omega
theorem wlist_len (b w e : Int) : ∀ (l : List Int) (c : Int) (g : Bool), (wlist b w e c g l).length = l.length
  | [], _, _ => rfl
  | x :: r, c, g => congrArg (· + 1) (wlist_len b w e r _ _)
section
variable {w : World} {mean : ExcName → Option Value} {mg mb : Str → Option Value} {dp un : Nat} {gd : Option (List Code)} {cn : Str} {cnm : List (Str × NameKind)} {cig cic : Bool} {cmo : List (Str × Const)} {a : Addr} {ccd : Value} {cl : List (Str × Addr)} {outer : List Env} {A₀ : Around} {base h₀ : Heap} {L : Addr} {m : Str → Option Value} {s : Shared} {Q E : Value → Shared → Prop} {news : List (Addr × Obj)}
  (B : Below A₀ base outer h₀) (F : Fr h₀ L s.heap m) (X : (hd.heap_39 w.params).In h₀) (T : Top vw (looseW vw [Str.ofString "PaperError", Str.ofString "Sizes"]) mean mg mb h₀) (hdp : dp + 60 < recursionLimit) (hun : un + 600 < cLine)
include B F X T hdp hun

set_option maxRecDepth 100000 in
set_option maxHeartbeats 8000000 in
theorem write_ok {b wd e : Int} {S dS CO : Addr} {t : Nat → Tok} {cv : List Value} {codes : List Int} {nn : Nat} (N : News h₀ L s.heap news) (hS : (S, instObj 184 dS) ∈ news) (hdS : (dS, szObj w b wd e t) ∈ news) (hCO : (CO, listOf cv.toArray nn) ∈ news)
    (hi : IntsAre cv codes) (hl : codes.length ≤ 64) (hb0 : 2 ≤ b) (hb1 : b ≤ 4) (hw0 : b + 1 ≤ wd) (hw1 : wd ≤ b + 3) (hf : Fits (wlist b wd e (2 ^ b.toNat + 2) false codes))
    (ret : ∀ h' tk' a t', Fr h₀ L h' m → News h₀ L h' news → DataOf (vnum 0 (wlist b wd e (2 ^ b.toNat + 2) false codes)) (tbits (wlist b wd e (2 ^ b.toNat + 2) false codes)) a → Q (.bytes a t') { s with heap := h', toks := tk' }) :
    wpC (model PySem.Challenge.rw_og0144_01.row.prog w) (ktrTop dp un gd cn ⟨.function, cnm, cig, cic, cmo⟩ L a ccd cl outer) (call (.ref 230) [.ref S, .ref CO]) Q E s := by
  revert X
  k_fill
  intro X
  k_with_none
  k_with_none
  refine wpC_call ?_
  walk1
  refine wpC_execs_cons (wpC_Assign_Name (wpC_Call_ ?_))
  k_fold
  k_steps
  refine wpC_callWith_K0 (by k_in) (by k_is) ?_
  (show wpC _ _ (call (Value.ref 155) []) _ _ _)
  k_dflt (refine' out_new ?B ?F ?X ?T ?hdp ?hun ?N ?_; (case B => k_asm); (case F => k_asm); (case X => k_asm); (case T => k_asm); (case hdp => ktr_room); (case hun => ktr_units); (case N => k_asm))
  intro h1 tk1 O dO BA t1 F1 N1 l1 l2 l3
  (with_reducible show wpAny _ _ _ _ _ _)
  k_fold
  k_steps
  k_with "stop" => (with_reducible show wpAny _ _ (call (Value.ref 219) _) _ _ _)
  refine wpC_execs_cons (wpC.of ?_)
  k_fold
  k_steps
  k_dflt (refine' count_new ?B ?F ?X ?T ?hdp ?hun ?N ?hS ?hdS ?_; (case B => k_asm); (case F => k_asm); (case X => k_asm); (case T => k_asm); (case hdp => ktr_room); (case hun => ktr_units); (case N => k_asm); (case hS => exact .tail _ (.tail _ (.tail _ hS))); (case hdS => exact .tail _ (.tail _ (.tail _ hdS))))
  intro h2 tk2 W dW t2 F2 N2 l4 l5
  k_with_none
  k_with "stop" => (with_reducible show wpAny _ _ (pyIter _) _ _ _)
  k_steps
  refine wpC_execs_cons (wpC_For ?_ (fun _ => rfl))
  k_fold
  k_steps
  k_unfold
  (with_reducible show wpAny _ _ (pyIter _) _ _ _)
  rename Fr _ _ _ _ => F5
  rename News _ _ _ _ => N5
  replace F5 := fr_map F5 (m' := fun y => if y = Str.ofString "count" then some (.ref W) else if y = Str.ofString "target" then some (.ref O) else if y = Str.ofString "codes" then some (.ref CO) else if y = Str.ofString "sizes" then some (.ref S) else none) (fun y => by
    show _ = if y = Str.ofString "count" then some (Value.ref W) else if y = Str.ofString "target" then some (Value.ref O) else List.lookup y [(Str.ofString "codes", Value.ref CO), (Str.ofString "sizes", Value.ref S)]
    rw [lookup2])
  have l6 := ltN (l4 _ (.head _))
  have l7 := ltN (l4 _ (.tail _ (.head _)))
  have l8 := ltN (l4 _ (.tail _ (.tail _ (.head _))))
  dsimp only at l6 l7 l8
  k_lt2 l2
  k_lt2 l3
  k_lt2 l5
  have T64 := tbits_le _ hf
  rw [wlist_len] at T64
  refine forC_list (vs := cv) (nn := nn) (WrJ w b wd e codes O dO BA W dW S news (fun y => if y = Str.ofString "count" then some (.ref W) else if y = Str.ofString "target" then some (.ref O) else if y = Str.ofString "codes" then some (.ref CO) else if y = Str.ofString "sizes" then some (.ref S) else none)) (news := (dO, outObj w BA 0 0 t1) :: (BA, baObj #[]) :: (dW, coObj w S (2 ^ b.toNat + 2) false t2) :: (O, instObj 155 dO) :: (W, instObj 219 dW) :: news) rfl F5 (kst_newsOf N5 (by kst_inAny)) ?hl ?hj rfl rfl ?turn ?done
  case hl =>
    rintro i m nx ⟨bb, hd, ct, c, g, V, T, t1, t2, rfl, -⟩
    exact .tail _ (.tail _ (.tail _ (.tail _ (.tail _ hCO))))
  case hj => exact ⟨#[], 0, 0, _, _, 0, 0, _, _, rfl, fun _ _ => rfl, wr_nil, rfl, Nat.zero_add _, hf⟩
  case done =>
    rintro m₁ nx h tk ⟨bb, hd, ct, c, g, V, T, t1, t2, rfl, hm, wr, ev, et, -⟩ F N
    rw [List.drop_of_length_le (by rw [hi.length]; exact Nat.le_refl _)] at ev et
    have ev' : V = vnum 0 (wlist b wd e (2 ^ b.toNat + 2) false codes) := ev
    have et' : T = tbits (wlist b wd e (2 ^ b.toNat + 2) false codes) := et
    have bz : bb.size < 1000 := by
      have := wr_size wr
      omega
    obtain ⟨w0, w1, w2, w3, -, -⟩ := id wr
    have F6 := fr_map F (m' := fun y => if y = Str.ofString "code" then m₁ (Str.ofString "code") else if y = Str.ofString "count" then some (.ref W) else if y = Str.ofString "target" then some (.ref O) else if y = Str.ofString "codes" then some (.ref CO) else if y = Str.ofString "sizes" then some (.ref S) else none) (fun y => by
      by_cases hy : y = Str.ofString "code"
      · rw [if_pos hy, hy]
      · rw [if_neg hy]; exact (hm y hy).symm)
    clear F F5 N5
    k_with_none
    k_with "call ref" => ((with_reducible show wpAny _ _ (call (Value.ref 152) _) _ _ _); k_dflt (refine' octets_ok ?B ?F ?X ?T ?hdp ?hun ?N ?hO ?hdO ?hBA ?hc0 ?hc1 ?hd0 ?hd1 ?hz ?_; (case B => k_asm); (case F => k_asm); (case X => k_asm); (case T => k_asm); (case hdp => ktr_room); (case hun => ktr_units); (case N => k_asm); (case hO => k_memK); (case hdO => k_memK); (case hBA => k_memK); (case hc0 => exact w0); (case hc1 => exact w1); (case hd0 => exact w2); (case hd1 => exact w3); (case hz => exact bz)); intro h' tk' bq tq F' N' hq)
    refine wpC_execs_cons (wpC.of ?_)
    k_fold
    k_steps
    rename Fr _ _ _ _ => kF
    rename News _ _ _ _ => kN
    exact ret _ _ _ _ kF (fun p hp => kN p (.tail _ (.tail _ (.tail _ (.tail _ (.tail _ hp)))))) (by rw [hq, ← ev', ← et']; exact wr_end wr)
  case turn =>
    intro i v m₁ nx h tk I o hv hJ ha off F N
    obtain ⟨bb, hd, ct, c, g, V, T, t1', t2', rfl, hm, wr, ev, et, ft⟩ := hJ
    obtain ⟨x, tx, rfl, hx⟩ := IntsAre.at hi i v hv
    have hdrop : codes.drop i = x :: codes.drop (i + 1) := by
      obtain ⟨hlt, hx'⟩ := List.getElem?_eq_some_iff.mp hx
      rw [← hx']; exact List.drop_eq_getElem_cons hlt
    rw [hdrop] at ev et ft
    simp only [wlist] at ev et ft
    have fx := ft _ (.head _)
    have hwz := wdZ_nn (wd := wd) (e := e) (c := c) hb0
    have F6 := fr_map F (m' := fun y => if y = Str.ofString "code" then some (.int x tx) else if y = Str.ofString "count" then some (.ref W) else if y = Str.ofString "target" then some (.ref O) else if y = Str.ofString "codes" then some (.ref CO) else if y = Str.ofString "sizes" then some (.ref S) else none) (fun y => by
      by_cases hy : y = Str.ofString "code"
      · rw [if_pos hy, if_pos hy]
      · rw [if_neg hy, if_neg hy]; exact (hm y hy).symm)
    clear F
    simp only [List.cons_append] at N
    have oI := fun a ha => off (I, o) (.head _) a ha
    simp only [List.map_cons] at oI
    have i1 := oI dO (.head _)
    have i2 := oI BA (.tail _ (.head _))
    have i3 := oI dW (.tail _ (.tail _ (.head _)))
    have hnews : ∀ p ∈ news, p.1 ≠ dO ∧ p.1 ≠ BA ∧ p.1 ≠ dW := fun p hp => by
      have a1 := ltN (l1 p hp)
      refine ⟨Nat.ne_of_lt a1, ?_, ?_⟩
      · exact Nat.ne_of_lt (Nat.lt_trans a1 (Nat.lt_trans l2 l3))
      · exact Nat.ne_of_lt (Nat.lt_trans a1 l8)
    have hS' : (S, instObj 184 dS) ∈ news ++ [(I, o)] := List.mem_append.mpr (.inl hS)
    have hdS' : (dS, szObj w b wd e t) ∈ news ++ [(I, o)] := List.mem_append.mpr (.inl hdS)
    have hoff : OwnOff (news ++ [(I, o)]) [dO, BA, dW] := fun p hp => by
      rcases List.mem_append.mp hp with hp | hp
      · obtain ⟨a1, a2, a3⟩ := hnews p hp
        intro q hq
        rcases List.mem_cons.mp hq with rfl | hq
        · exact a1
        · rcases List.mem_cons.mp hq with rfl | hq
          · exact a2
          · rw [List.mem_singleton.mp hq]; exact a3
      · rw [List.mem_singleton.mp hp]
        intro q hq
        rcases List.mem_cons.mp hq with rfl | hq
        · exact i1
        · rcases List.mem_cons.mp hq with rfl | hq
          · exact i2
          · rw [List.mem_singleton.mp hq]; exact i3
    generalize hown : news ++ [(I, o)] = own at N hS' hdS' hoff
    clear N5 F5 off oI
    have b1 : wdZ b wd e c ≤ 8 := by
      have := fx.2.2
      dsimp only at this
      omega
    have bz : bb.size < 1000 := by
      have := wr_size wr
      omega
    obtain ⟨w0, w1, w2, w3, -, -⟩ := id wr
    k_with_none
    k_with "call ref" => ((with_reducible show wpAny _ _ (call (Value.ref 209) _) _ _ _); k_dflt (refine' width_ok ?B ?F ?X ?T ?hdp ?hun ?N ?hW ?hdW ?hS ?hdS ?_; (case B => k_asm); (case F => k_asm); (case X => k_asm); (case T => k_asm); (case hdp => ktr_room); (case hun => ktr_units); (case N => k_asm); (case hW => k_memK); (case hdW => k_memK); (case hS => exact .tail _ (.tail _ (.tail _ (.tail _ (.tail _ hS'))))); (case hdS => exact .tail _ (.tail _ (.tail _ (.tail _ (.tail _ hdS')))))); intro h' tk' tq F' N')
    k_with "call ref" => ((with_reducible show wpAny _ _ (call (Value.ref 216) _) _ _ _); k_dflt (refine' passed_use ?B ?F ?X ?T ?hdp ?hun ?hb0 ?N ?U ?hW ?hS ?hdS ?_; (case B => k_asm); (case F => k_asm); (case X => k_asm); (case T => k_asm); (case hdp => ktr_room); (case hun => ktr_units); (case hb0 => assumption); (case N => k_asm); (case hW => k_memK); (case U => (intro o'; k_upd)); (case hS => exact .tail _ (.tail _ (.tail _ (.tail _ (.tail _ hS'))))); (case hdS => exact .tail _ (.tail _ (.tail _ (.tail _ (.tail _ hdS')))))); intro h' tk' tq cq gq F' N' hq)
    refine wpC_execs_cons (wpC_Expr (wpC_methodCall ?_))
    k_fold
    k_steps
    refine wpC_callWith_K (by k_asm) (by k_is) ?_
    k_fold
    k_steps
    (show wpC _ _ (call (Value.ref 138) [Value.ref O, Value.int x _, Value.int (wdZ b wd e c) _]) _ _ _)
    k_dflt (refine' put_ok ?B ?F ?X ?T ?hdp ?hun ?N ?hO ?ho ?hne ?hc0 ?hc1 ?hd0 ?hd1 ?hv ?hn ?hn1 ?hv1 ?hz ?_; (case B => k_asm); (case F => k_asm); (case X => k_asm); (case T => k_asm); (case hdp => ktr_room); (case hun => ktr_units); (case N => k_asm); (case hO => k_memK); (case hne => exact Nat.ne_of_lt (Nat.lt_trans l2 l3)); (case hc0 => exact w0); (case hc1 => exact w1); (case hd0 => exact w2); (case hd1 => exact w3); (case hv => exact fx.1); (case hn => exact hwz); (case hn1 => exact b1); (case hv1 => exact fx.2.1); (case hz => exact bz))
    case ho =>
      intro p hp
      rcases List.mem_cons.mp hp with rfl | hp
      · intro q hq
        rcases List.mem_cons.mp hq with rfl | hq
        · exact Nat.ne_of_gt l8
        · rw [List.mem_singleton.mp hq]; exact Nat.ne_of_gt l6
      · rcases List.mem_cons.mp hp with rfl | hp
        · intro q hq
          rcases List.mem_cons.mp hq with rfl | hq
          · exact Nat.ne_of_gt l2
          · rw [List.mem_singleton.mp hq]; exact Nat.ne_of_lt l3
        · rcases List.mem_cons.mp hp with rfl | hp
          · intro q hq
            rcases List.mem_cons.mp hq with rfl | hq
            · exact Nat.ne_of_gt (Nat.lt_trans l8 l5)
            · rw [List.mem_singleton.mp hq]; exact Nat.ne_of_gt (Nat.lt_trans l6 l5)
          · intro q hq
            exact hoff p hp q (by
              rcases List.mem_cons.mp hq with rfl | hq
              · exact .head _
              · rw [List.mem_singleton.mp hq]; exact .tail _ (.head _))
    intro h7 tk7 b' hd' ct' t7 F7 N7 pr
    refine ⟨rfl, ?_⟩
    refine wpC_execs_cons (wpC.of ?_)
    k_fold
    k_steps
    refine wpC_execs_nil ?_
    rename Fr _ _ _ _ => kF
    rename News _ _ _ _ => kN
    have hc' : cq = (stepC b wd c g x).1 := congrArg Prod.fst hq
    have hg' : gq = (stepC b wd c g x).2 := congrArg Prod.snd hq
    subst hc' hg'
    refine ⟨rfl, _, _, _, (dO, outObj w BA hd' ct' t7) :: (BA, baObj b') :: (dW, coObj w S (stepC b wd c g x).1 (stepC b wd c g x).2 tq) :: (O, instObj 155 dO) :: (W, instObj 219 dW) :: news, rfl, kF, ?_, rfl, b', hd', ct', _, _, V * 2 ^ (wdZ b wd e c).toNat + x, T + (wdZ b wd e c).toNat, t7, tq, rfl, ?_, wr_put wr pr fx.1 hwz b1 fx.2.1, ev, ?_, fun p hp => ft p (.tail _ hp)⟩
    · simp only [List.cons_append, hown]
      exact kN
    · intro y hy
      show (if y = Str.ofString "code" then _ else _) = _
      rw [if_neg hy]
    · have et' : T + ((wdZ b wd e c).toNat + tbits (wlist b wd e (stepC b wd c g x).1 (stepC b wd c g x).2 (codes.drop (i + 1)))) = _ := et
      omega
end

theorem pow_mono2 {a b : Nat} (h : a ≤ b) : (2 : Int) ^ a ≤ 2 ^ b := by
  have e : b = a + (b - a) := by omega
  rw [e, pow_add_int]
  have h1 := pow_pos2 a
  have h2 : (1 : Int) ≤ 2 ^ (b - a) := pow_pos2 (b - a)
  have := Int.mul_le_mul_of_nonneg_left h2 (Int.le_of_lt h1)
  omega
theorem bits_bounds {x : Int} (h : 1 ≤ x) : x < 2 ^ (Builtin.Int.intBits x) ∧ 1 ≤ Builtin.Int.intBits x ∧ 2 ^ (Builtin.Int.intBits x - 1) ≤ x := by
  obtain ⟨n, rfl⟩ := Int.eq_ofNat_of_zero_le (Int.le_trans (by decide) h)
  have e : ∀ k : Nat, ((2 : Int) ^ k) = ((2 ^ k : Nat) : Int) := fun k => by push_cast; rfl
  have h1 := (intBits_le_iff (m := Builtin.Int.intBits (n : Int)) (x := (n : Int))).mp (Nat.le_refl _)
  rw [Int.natAbs_natCast] at h1
  have h2 : 1 ≤ Builtin.Int.intBits (n : Int) := by
    refine Nat.one_le_iff_ne_zero.mpr fun e => ?_
    rw [e] at h1
    omega
  refine ⟨by rw [e]; omega, h2, ?_⟩
  rw [e]
  by_cases h3 : n < 2 ^ (Builtin.Int.intBits (n : Int) - 1)
  · have := (intBits_le_iff (m := Builtin.Int.intBits (n : Int) - 1) (x := (n : Int))).mpr (by rw [Int.natAbs_natCast]; exact h3)
    omega
  · omega
theorem wdZ_facts {b wd e c : Int} (hb : 2 ≤ b) (hw : b + 1 ≤ wd) (hc0 : 1 ≤ c) (hc1 : c ≤ 2 ^ wd.toNat) (he : 0 ≤ e) :
    b + 1 ≤ wdZ b wd e c ∧ wdZ b wd e c ≤ wd ∧ (wdZ b wd e c < wd → c + e < 2 ^ (wdZ b wd e c).toNat) ∧ (b + 1 < wdZ b wd e c → 2 ^ (wdZ b wd e c - 1).toNat ≤ c + e) ∧ c - 1 < 2 ^ (wdZ b wd e c).toNat := by
  obtain ⟨h1, h2, h3⟩ := bits_bounds (x := c + e) (by omega)
  have h4 : wdZ b wd e c < wd → c + e < 2 ^ (wdZ b wd e c).toNat := fun h => by
    have : (2 : Int) ^ (Builtin.Int.intBits (c + e)) ≤ 2 ^ (wdZ b wd e c).toNat := pow_mono2 (by unfold wdZ at h ⊢; omega)
    omega
  refine ⟨by unfold wdZ; omega, by unfold wdZ; omega, h4, fun h => ?_, ?_⟩
  · have : (2 : Int) ^ (wdZ b wd e c - 1).toNat ≤ 2 ^ (Builtin.Int.intBits (c + e) - 1) := pow_mono2 (by unfold wdZ at h ⊢; omega)
    omega
  · by_cases h : wdZ b wd e c < wd
    · have := h4 h
      omega
    · have : wdZ b wd e c = wd := by unfold wdZ at h ⊢; omega
      rw [this]
      omega
noncomputable def runC (b w c : Int) (g : Bool) : List Int → Int × Bool
  | [] => (c, g)
  | x :: r => runC b w (stepC b w c g x).1 (stepC b w c g x).2 r
theorem runC_snoc (b w x : Int) : ∀ (l : List Int) (c : Int) (g : Bool), runC b w c g (l ++ [x]) = stepC b w (runC b w c g l).1 (runC b w c g l).2 x
  | [], _, _ => rfl
  | _ :: r, _, _ => runC_snoc b w x r _ _
theorem wlist_snoc (b w e x : Int) : ∀ (l : List Int) (c : Int) (g : Bool), wlist b w e c g (l ++ [x]) = wlist b w e c g l ++ [(x, (wdZ b w e (runC b w c g l).1).toNat)]
  | [], _, _ => rfl
  | y :: r, c, g => congrArg ((y, (wdZ b w e c).toNat) :: ·) (wlist_snoc b w e x r _ _)
theorem tbits_snoc (x : Int) (n : Nat) : ∀ l : List (Int × Nat), tbits (l ++ [(x, n)]) = tbits l + n
  | [] => by show n + 0 = 0 + n; omega
  | (y, k) :: r => by
    show k + tbits (r ++ [(x, n)]) = k + tbits r + n
    rw [tbits_snoc x n r]; omega
/-- what stands behind a row of codes -/
noncomputable def LawOk (b wd e : Int) (cs : List Int) (c : Int) (g : Bool) (T : Int) : Prop :=
  runC b wd (2 ^ b.toNat + 2) false cs = (c, g) ∧ 2 ^ b.toNat + 2 ≤ c ∧ c ≤ 2 ^ wd.toNat ∧ ((tbits (wlist b wd e (2 ^ b.toNat + 2) false cs) : Nat) : Int) = T ∧ Fits (wlist b wd e (2 ^ b.toNat + 2) false cs) ∧ ∀ x ∈ cs, x ≠ 2 ^ b.toNat + 1
theorem first_le {b wd : Int} (hb : 2 ≤ b) (hw : b + 1 ≤ wd) : 2 ^ b.toNat + 2 ≤ (2 : Int) ^ wd.toNat := by
  have h1 : (2 : Int) ^ (b.toNat + 1) ≤ 2 ^ wd.toNat := pow_mono2 (by omega)
  have h2 : (2 : Int) ^ 2 ≤ 2 ^ b.toNat := pow_mono2 (by omega)
  rw [pow_add_int] at h1
  omega
theorem lawOk_nil {b wd e : Int} (hb : 2 ≤ b) (hw : b + 1 ≤ wd) : LawOk b wd e [] (2 ^ b.toNat + 2) false 0 :=
  ⟨rfl, Int.le_refl _, first_le hb hw, rfl, (fun _ h => by cases h), fun _ h => by cases h⟩
theorem lawOk_put {b wd e : Int} {cs : List Int} {c : Int} {g : Bool} {T x : Int} (h : LawOk b wd e cs c g T) (hb : 2 ≤ b) (hw : b + 1 ≤ wd) (hw1 : wd ≤ 8) (he : 0 ≤ e) (hx : 0 ≤ x) (hxc : x < c) :
    ((tbits (wlist b wd e (2 ^ b.toNat + 2) false (cs ++ [x])) : Nat) : Int) = T + wdZ b wd e c ∧ Fits (wlist b wd e (2 ^ b.toNat + 2) false (cs ++ [x])) := by
  obtain ⟨hr, h1, h2, h3, h4, h5⟩ := h
  have hp := pow_pos2 b.toNat
  obtain ⟨f1, f2, -, -, f5⟩ := wdZ_facts (e := e) hb hw (show 1 ≤ c by omega) h2 he
  rw [wlist_snoc, hr]
  refine ⟨by rw [tbits_snoc, ← h3]; dsimp only; omega, fun p hp => ?_⟩
  rcases List.mem_append.mp hp with hp | hp
  · exact h4 p hp
  · rw [List.mem_singleton.mp hp]
    exact ⟨hx, by dsimp only; omega, by dsimp only; omega⟩
theorem step_bounds {b wd c x : Int} {g : Bool} (hb : 2 ≤ b) (hw : b + 1 ≤ wd) (h1 : 2 ^ b.toNat + 2 ≤ c) (h2 : c ≤ 2 ^ wd.toNat) : 2 ^ b.toNat + 2 ≤ (stepC b wd c g x).1 ∧ (stepC b wd c g x).1 ≤ 2 ^ wd.toNat := by
  have := first_le hb hw
  unfold stepC
  split
  · exact ⟨Int.le_refl _, this⟩
  · split
    · exact ⟨by dsimp only; omega, by dsimp only; omega⟩
    · exact ⟨h1, h2⟩
theorem lawOk_snoc {b wd e : Int} {cs : List Int} {c : Int} {g : Bool} {T x : Int} (h : LawOk b wd e cs c g T) (hb : 2 ≤ b) (hw : b + 1 ≤ wd) (hw1 : wd ≤ 8) (he : 0 ≤ e) (hx : 0 ≤ x) (hxc : x < c) (hne : x ≠ 2 ^ b.toNat + 1) :
    LawOk b wd e (cs ++ [x]) (stepC b wd c g x).1 (stepC b wd c g x).2 (T + wdZ b wd e c) := by
  have hp := lawOk_put h hb hw hw1 he hx hxc
  obtain ⟨hr, h1, h2, h3, h4, h5⟩ := h
  have sb := step_bounds (g := g) (x := x) hb hw h1 h2
  refine ⟨by rw [runC_snoc, hr], sb.1, sb.2, hp.1, hp.2, fun y hy => ?_⟩
  rcases List.mem_append.mp hy with hy | hy
  · exact h5 y hy
  · rw [List.mem_singleton.mp hy]; exact hne

/-! what stands behind the law's loop -/
theorem fin_size {V : Int} {T : Nat} {d : Array UInt8} {t : Int} (h : DataOf V T d) (ht : (T : Int) = t) : (d.size : Int) = (t + 7) / 8 ∧ (d.size : Int) * 8 ≤ t + 7 := by
  obtain ⟨pad, h1, -, h3⟩ := h
  omega
theorem fin_left {l : List (Int × Nat)} {d : Array UInt8} (h : DataOf (vnum 0 l) (tbits l) d) (z : UInt8) : ∃ q, Left (d ++ #[z]).toList 0 0 0 l q := by
  obtain ⟨pad, h1, h2, h3⟩ := h
  have hz := z.toNat_lt
  have hp : (1 : Int) ≤ 2 ^ pad := pow_pos2 pad
  have e8 : (2 : Int) ^ 8 = 256 := by decide
  refine ⟨pad + 8, (z.toNat : Int), ?_, Int.natCast_nonneg _, ?_, ?_⟩
  · rw [Array.toList_append, numL_append]
    show numL 0 d.toList * 256 + (z.toNat : Int) = _
    rw [show numL 0 d.toList = numB d from rfl, h2, pow_add_int, e8, Int.mul_assoc]
  · rw [pow_add_int, e8]
    omega
  · rw [Array.length_toList, Array.size_append]
    show 8 * ((d.size + 1 : Nat) : Int) = _
    omega

theorem post_true (ns : List Int) : PySem.Challenge.rw_og0144_01.row.claim.post [ofPy (PyData.list (ns.map PyData.int))] (.bool true) [ofPy (PyData.list (ns.map PyData.int))] = true := by
  wrow_post
theorem no_raise (ns : List Int) (cls : ExcName) : PySem.Challenge.rw_og0144_01.row.claim.raises [ofPy (PyData.list (ns.map PyData.int))] cls = false := by
  refine raisesW_false ?_ cls
  wrow_none_raised


abbrev inObj (w : World) (d : Array UInt8) (at' held ct : Int) (t : Nat → Tok) : Obj := dictOf [ent w "data" (t 0) (.bytes d (t 1)), ent w "at" (t 2) (.int at' (t 3)), ent w "held" (t 4) (.int held (t 5)), ent w "count" (t 6) (.int ct (t 7))] 4
theorem news_drop2 {h₀ h : Heap} {L : Addr} {news : List (Addr × Obj)} {p q : Addr × Obj} (N : News h₀ L h (p :: q :: news)) : News h₀ L h (p :: news) := fun x hx => by
  rcases List.mem_cons.mp hx with rfl | hx
  · exact N _ (.head _)
  · exact N _ (.tail _ (.tail _ hx))
theorem item_d {prog : Program} {w : World} {A : Around} {E : Value → Shared → Prop} {s : Shared} {value slice : PySem.Expr} {d : Array UInt8} {i : Int} {t u : Tok} {Q : Value → Shared → Prop} (hz : d.size < 1000) (h0 : 0 ≤ i) (h1 : i < (d.size : Int))
    (h : ∀ y x tk, y = ((d.toList.getD i.toNat 0).toNat : Int) → Q (.int y x) { s with toks := tk })
    (hs : subscripted slice false (.bytes d.toList.toArray t) (.int i u) = operate [.bytes d.toList.toArray t, .int i u] (getItem (.bytes d.toList.toArray t) (.int i u)) := by with_unfolding_all rfl)
    (ht : ∀ r, letTemporaryGo value (.bytes d.toList.toArray t) r = pure () := by intro _; with_unfolding_all rfl) : wpAny (model prog w) A (subscriptTail value slice (.bytes d t) (.int i u)) Q E s := by
  have e : d = d.toList.toArray := by simp
  rw [e]
  exact KBy.item_N (by rw [Array.length_toList]; omega) h0 (by rw [Array.length_toList]; exact h1) (h _ _ _ rfl) hs ht
theorem d_byte {y : Int} {x : UInt8} (h : y = (x.toNat : Int)) : 0 ≤ y ∧ y < 2 ^ (8 : Int).toNat := by
  have := x.toNat_lt
  have e : (2 : Int) ^ (8 : Int).toNat = 256 := by decide
  rw [e]; omega
theorem whlIf_split {b : Bool} {T F : Prop} (h1 : b = true → T) (h2 : b = false → F) : WhlIf b T F := by
  cases b
  · exact WhlIf.no rfl (h2 rfl)
  · exact WhlIf.yes rfl (h1 rfl)
section
variable {w : World} {mean : ExcName → Option Value} {mg mb : Str → Option Value} {dp un : Nat} {gd : Option (List Code)} {cn : Str} {cnm : List (Str × NameKind)} {cig cic : Bool} {cmo : List (Str × Const)} {a : Addr} {ccd : Value} {cl : List (Str × Addr)} {outer : List Env} {A₀ : Around} {base h₀ : Heap} {L : Addr} {m : Str → Option Value} {s : Shared} {Q E : Value → Shared → Prop} {news : List (Addr × Obj)}
  (B : Below A₀ base outer h₀) (F : Fr h₀ L s.heap m) (X : (hd.heap_39 w.params).In h₀) (T : Top vw (looseW vw [Str.ofString "PaperError", Str.ofString "Sizes"]) mean mg mb h₀) (hdp : dp + 30 < recursionLimit) (hun : un + 300 < cLine)
include B F X T hdp hun

set_option maxRecDepth 100000 in
set_option maxHeartbeats 4000000 in
theorem in_new {d : Array UInt8} {td : Tok} (N : News h₀ L s.heap news)
    (ret : ∀ h' tk' I dI t, Fr h₀ L h' m → News h₀ L h' ((I, instObj 113 dI) :: (dI, inObj w d 0 0 0 t) :: news) → (∀ p ∈ news, p.1 < dI) → dI < I → Q (.ref I) { s with heap := h', toks := tk' }) :
    wpAny (model PySem.Challenge.rw_og0144_01.row.prog w) (ktrTop dp un gd cn ⟨.function, cnm, cig, cic, cmo⟩ L a ccd cl outer) (call (.ref 113) [.bytes d td]) Q E s := by
  revert X
  k_fill
  intro X
  k_with_none
  k_with_none
  k_steps
  rename Fr _ _ _ _ => kF
  rename News _ _ _ _ => kN
  exact ret _ _ _ _ (fun n => [_, _, _, _, _, _, _, _].getD n 0) kF kN (by assumption) (by omega)

set_option maxRecDepth 100000 in
set_option maxHeartbeats 8000000 in
theorem take_ok {I dI : Addr} {d : Array UInt8} {at' held ct n K : Int} {t : Nat → Tok} {tn : Tok} (N : News h₀ L s.heap ((dI, inObj w d at' held ct t) :: news)) (hI : (I, instObj 113 dI) ∈ news) (ho : OwnOff news [dI])
    (rd : RD d.toList at' held ct K) (hc8 : ct < 8) (hn : 0 ≤ n) (hn8 : n ≤ 8) (hlen : n ≤ ct + 8 * ((d.size : Int) - at')) (hz : d.size < 1000)
    (ret : ∀ h' tk' v tv at2 held2 ct2 t', Fr h₀ L h' m → News h₀ L h' ((dI, inObj w d at2 held2 ct2 t') :: news) → TakeR d.toList at' held ct n v at2 held2 ct2 → Q (.int v tv) { s with heap := h', toks := tk' }) :
    wpAny (model PySem.Challenge.rw_og0144_01.row.prog w) (ktrTop dp un gd cn ⟨.function, cnm, cig, cic, cmo⟩ L a ccd cl outer) (call (.ref 103) [.ref I, .int n tn]) Q E s := by
  revert X
  k_fill
  intro X
  k_with_none
  obtain ⟨a0, a1, c0, h0, h1, -⟩ := rd
  rw [Array.length_toList] at a1
  have e1 : I ≠ dI := ho _ hI _ (.head _)
  have N2 : News h₀ L s.heap ((dI, inObj w d at' held ct t) :: (I, instObj 113 dI) :: news) := fun p hp => by
    rcases List.mem_cons.mp hp with rfl | hp
    · exact N _ (.head _)
    · rcases List.mem_cons.mp hp with rfl | hp
      · exact N _ (.tail _ hI)
      · exact N _ (.tail _ hp)
  clear N
  k_with_none
  k_with "stop" => (with_reducible show WhlIf _ _ _)
  k_with "exec While" => refine whl_start 100 ?_
  k_steps
  have hp8 := pow_le_256 (n := ct) (by omega)
  have hlt : held < 256 := by omega
  refine whlIf_split ?_ ?_ <;> intro hw
  · have hw' : ct < n := of_decide_eq_true hw
    have hat : at' < (d.size : Int) := by omega
    k_with "call ref" => ((with_reducible show wpAny _ _ (call (Value.ref 68) _) _ _ _); k_dflt (refine' low_ok ?B ?F ?X ?T ?hdp ?hun ?N ?hv ?hn ?hn1 ?_; (case B => k_asm); (case F => k_asm); (case X => k_asm); (case T => k_asm); (case hdp => ktr_room); (case hun => ktr_units); (case N => k_asm); (case hv => omega); (case hn => omega); (case hn1 => omega)); intro h' tk' tl F' N')
    k_with "subscriptTail" => ((with_reducible show wpAny _ _ (subscriptTail _ _ (Value.bytes _ _) (Value.int _ _)) _ _ _); refine item_d hz (by omega) (by omega) ?_; intro y xy tky hy; have hyb := d_byte hy)
    k_with "binaryOp BitOr int int" => ((with_reducible refine g_or_sh1 h0 hyb.1 hyb.2 ?_); intro H xH tkH hH; have hH0 : 0 ≤ H := by (rw [hH]; exact glue_nn h0 hyb.1))
    k_steps
    refine whlIf_split ?_ ?_ <;> intro hv
    · have hv' := of_decide_eq_true hv
      omega
    · have hv' : ¬ ct + 8 < n := of_decide_eq_false hv
      k_with_none
      k_with "call ref" => ((with_reducible show wpAny _ _ (call (Value.ref 68) _) _ _ _); k_dflt (refine' low_ok ?B ?F ?X ?T ?hdp ?hun ?N ?hv ?hn ?hn1 ?_; (case B => k_asm); (case F => k_asm); (case X => k_asm); (case T => k_asm); (case hdp => ktr_room); (case hun => ktr_units); (case N => k_asm); (case hv => omega); (case hn => omega); (case hn1 => omega)); intro h' tk' tl F' N')
      k_with "binaryOp RShift int int" => ((with_reducible refine g_shr1 (by omega) (by omega) ?_); intro rb xb tkb hrb)
      k_steps
      rename Fr _ _ _ _ => kF
      rename News _ _ _ _ => kN
      have e8 : (8 : Int).toNat = 8 := rfl
      rw [e8, hy] at hH
      exact ret _ _ _ _ _ _ _ (fun n => [_, _, _, _, _, _, _, _].getD n 0) kF (news_drop2 kN) (.inr ⟨hw', by rw [Array.length_toList]; exact hat, by rw [hrb, hH], rfl, by rw [hH], rfl⟩)
  · have hw' : ¬ ct < n := of_decide_eq_false hw
    k_with "binaryOp RShift int int" => ((with_reducible refine g_shr1 (by omega) (by omega) ?_); intro rb xb tkb hrb)
    k_with "call ref" => ((with_reducible show wpAny _ _ (call (Value.ref 68) _) _ _ _); k_dflt (refine' low_ok ?B ?F ?X ?T ?hdp ?hun ?N ?hv ?hn ?hn1 ?_; (case B => k_asm); (case F => k_asm); (case X => k_asm); (case T => k_asm); (case hdp => ktr_room); (case hun => ktr_units); (case N => k_asm); (case hv => omega); (case hn => omega); (case hn1 => omega)); intro h' tk' tl F' N')
    k_steps
    rename Fr _ _ _ _ => kF
    rename News _ _ _ _ => kN
    exact ret _ _ _ _ _ _ _ (fun n => [_, _, _, _, _, _, _, _].getD n 0) kF (news_drop2 kN) (.inl ⟨by omega, hrb, rfl, rfl, rfl⟩)
end


theorem rd_nil (d : List UInt8) : RD d 0 0 0 0 := ⟨by decide, Int.natCast_nonneg _, by decide, by decide, by decide, rfl⟩
theorem ints_push {vs : List Value} {ns : List Int} {x : Int} {t : Tok} (h : IntsAre vs ns) : IntsAre (vs ++ [.int x t]) (ns ++ [x]) := by
  induction h with
  | nil => exact .cons _ _ .nil
  | cons _ _ _ ih => exact .cons _ _ ih
structure RdS where
  rem : List Int
  dn : List Int
  rv : List Value
  nn : Nat
  at' : Int
  held : Int
  ct : Int
  K : Int
  c : Int
  g : Bool
  t1 : Nat → Tok
  t2 : Nat → Tok
noncomputable def RdFacts (b wd e : Int) (d : List UInt8) (all : List Int) (q : Nat) (x : RdS) : Prop :=
  IntsAre x.rv x.dn ∧ x.dn ++ x.rem = all ∧ x.rem ≠ [] ∧ RD d x.at' x.held x.ct x.K ∧ x.ct < 8 ∧ Left d x.at' x.ct x.K (wlist b wd e x.c x.g x.rem) q ∧ Fits (wlist b wd e x.c x.g x.rem)
section
variable {w : World} {mean : ExcName → Option Value} {mg mb : Str → Option Value} {dp un : Nat} {gd : Option (List Code)} {cn : Str} {cnm : List (Str × NameKind)} {cig cic : Bool} {cmo : List (Str × Const)} {a : Addr} {ccd : Value} {cl : List (Str × Addr)} {outer : List Env} {A₀ : Around} {base h₀ : Heap} {L : Addr} {m : Str → Option Value} {s : Shared} {Q E : Value → Shared → Prop} {news : List (Addr × Obj)}
  (B : Below A₀ base outer h₀) (F : Fr h₀ L s.heap m) (X : (hd.heap_39 w.params).In h₀) (T : Top vw (looseW vw [Str.ofString "PaperError", Str.ofString "Sizes"]) mean mg mb h₀) (hdp : dp + 60 < recursionLimit) (hun : un + 600 < cLine)
include B F X T hdp hun

set_option maxRecDepth 100000 in
set_option maxHeartbeats 8000000 in
theorem read_ok {b wd e : Int} {S dS : Addr} {t : Nat → Tok} {d : Array UInt8} {td : Tok} {codes : List Int} {q : Nat} (N : News h₀ L s.heap news) (hS : (S, instObj 184 dS) ∈ news) (hdS : (dS, szObj w b wd e t) ∈ news)
    (hl : codes.length ≤ 64) (hb0 : 2 ≤ b) (hb1 : b ≤ 4) (hw0 : b + 1 ≤ wd) (hw1 : wd ≤ b + 3) (hz : d.size < 1000) (hne : ∀ x ∈ codes, x ≠ 2 ^ b.toNat + 1)
    (hleft : Left d.toList 0 0 0 (wlist b wd e (2 ^ b.toNat + 2) false (codes ++ [2 ^ b.toNat + 1])) q) (hf : Fits (wlist b wd e (2 ^ b.toNat + 2) false (codes ++ [2 ^ b.toNat + 1])))
    (ret : ∀ h' tk' RL rv n, Fr h₀ L h' m → News h₀ L h' ((RL, listOf rv.toArray n) :: news) → (∀ p ∈ news, p.1 < RL) → IntsAre rv (codes ++ [2 ^ b.toNat + 1]) → Q (.ref RL) { s with heap := h', toks := tk' }) :
    wpAny (model PySem.Challenge.rw_og0144_01.row.prog w) (ktrTop dp un gd cn ⟨.function, cnm, cig, cic, cmo⟩ L a ccd cl outer) (call (.ref 237) [.ref S, .bytes d td]) Q E s := by
  revert X
  k_fill
  intro X
  k_with_none
  k_with_none
  k_with "stop" => (with_reducible show wpAny _ _ (call (Value.ref 219) _) _ _ _)
  k_with "call ref" => ((with_reducible show wpAny _ _ (call (Value.ref 113) _) _ _ _); k_dflt (refine' in_new ?B ?F ?X ?T ?hdp ?hun ?N ?_; (case B => k_asm); (case F => k_asm); (case X => k_asm); (case T => k_asm); (case hdp => ktr_room); (case hun => ktr_units); (case N => k_asm)); intro h1 tk1 I dI t1 F1 N1 l1 l2; k_lt2 l2)
  k_steps
  k_dflt (refine' count_new ?B ?F ?X ?T ?hdp ?hun ?N ?hS ?hdS ?_; (case B => k_asm); (case F => k_asm); (case X => k_asm); (case T => k_asm); (case hdp => ktr_room); (case hun => ktr_units); (case N => k_asm); (case hS => exact .tail _ (.tail _ hS)); (case hdS => exact .tail _ (.tail _ hdS)))
  intro h2 tk2 W dW t2 F2 N2 l4 l5
  k_lt2 l5
  have l6 := ltN (l4 _ (.head _))
  have l7 := ltN (l4 _ (.tail _ (.head _)))
  dsimp only at l6 l7
  k_with_none
  k_with "stop" => (with_reducible show wpAny _ _ (exec (Stmt.While _ _ _ _) _) _ _ _)
  k_steps
  rename Fr _ _ _ _ => F5
  rename News _ _ _ _ => N5
  rename_i RL _ _ _
  rename (_ < _ ∧ _ < _ ∧ _ ∧ _ ∧ AllLt _ _) => lR
  obtain ⟨r1, r2, r3, r4, -⟩ := id lR
  replace F5 := fr_map F5 (m' := fun y => if y = Str.ofString "codes" then some (.ref RL) else if y = Str.ofString "count" then some (.ref W) else if y = Str.ofString "source" then some (.ref I) else if y = Str.ofString "data" then some (.bytes d td) else if y = Str.ofString "sizes" then some (.ref S) else none) (fun y => by
    show _ = if y = Str.ofString "codes" then some (Value.ref RL) else if y = Str.ofString "count" then some (Value.ref W) else if y = Str.ofString "source" then some (Value.ref I) else List.lookup y [(Str.ofString "data", Value.bytes d td), (Str.ofString "sizes", Value.ref S)]
    rw [lookup2])
  have T64 := tbits_le _ hf
  rw [wlist_len] at T64
  refine' ksw_while (σ := RdS) (fun x => (dI, inObj w d x.at' x.held x.ct x.t1) :: (dW, coObj w S x.c x.g x.t2) :: (RL, listOf x.rv.toArray x.nn) :: (I, instObj 113 dI) :: (W, instObj 219 dW) :: news) (fun _ => []) (RdFacts b wd e d.toList (codes ++ [2 ^ b.toNat + 1]) q) [Str.ofString "code"] (fun _ => True) (fun x => x.rem.length) ⟨codes ++ [2 ^ b.toNat + 1], [], [], 0, 0, 0, 0, 0, _, _, t1, t2⟩ F5 (kst_newsOf N5 (by kst_inAny)) ?hf0 (by intro _ h; cases h) trivial ?turn ?hE
  case hE => first | passes_own | with_unfolding_all passes_own
  case hf0 => exact ⟨.nil, rfl, by simp, rd_nil _, by show (0:Int) < 8; decide, hleft, hf⟩
  case turn =>
    clear F5 N5
    rintro ⟨rem, dn, rv, nn, at', held, ct, K, c, g, t1, t2⟩ u h tk fx - F5 N5
    dsimp only [RdFacts] at fx N5 F5
    obtain ⟨fi, fa, fn, frd, fc, fl, ff⟩ := fx
    replace F5 := fr_map F5 (m' := fun y => if y = Str.ofString "code" then u (Str.ofString "code") else if y = Str.ofString "codes" then some (.ref RL) else if y = Str.ofString "count" then some (.ref W) else if y = Str.ofString "source" then some (.ref I) else if y = Str.ofString "data" then some (.bytes d td) else if y = Str.ofString "sizes" then some (.ref S) else none) (fun y => by
      show _ = if [Str.ofString "code"].contains y = true then u y else _
      by_cases hy : y = Str.ofString "code"
      · subst hy; rw [if_pos rfl, if_pos (by decide)]
      · have hc : ¬ [Str.ofString "code"].contains y = true := by simp [hy]
        rw [if_neg hy, if_neg hc])
    obtain ⟨x, r, rfl⟩ : ∃ x r, rem = x :: r := by
      cases rem with
      | nil => exact absurd rfl fn
      | cons x r => exact ⟨x, r, rfl⟩
    simp only [wlist] at fl ff
    have fx := ff _ (.head _)
    dsimp only at fx
    have hwz := wdZ_nn (wd := wd) (e := e) (c := c) hb0
    have b1 : wdZ b wd e c ≤ 8 := by omega
    have hlen : wdZ b wd e c ≤ ct + 8 * ((d.size : Int) - at') := by
      obtain ⟨low, -, -, -, t⟩ := id fl
      have t2 : tbits ((x, (wdZ b wd e c).toNat) :: wlist b wd e (stepC b wd c g x).1 (stepC b wd c g x).2 r) = (wdZ b wd e c).toNat + tbits (wlist b wd e (stepC b wd c g x).1 (stepC b wd c g x).2 r) := rfl
      rw [t2, Array.length_toList] at t
      omega
    k_with_none
    k_with "stop" => (with_reducible show wpAny _ _ (call (Value.ref 103) _) _ _ _)
    k_with "call ref" => ((with_reducible show wpAny _ _ (call (Value.ref 209) _) _ _ _); k_dflt (refine' width_ok ?B ?F ?X ?T ?hdp ?hun ?N ?hW ?hdW ?hS ?hdS ?_; (case B => k_asm); (case F => k_asm); (case X => k_asm); (case T => k_asm); (case hdp => ktr_room); (case hun => ktr_units); (case N => k_asm); (case hW => k_memK); (case hdW => k_memK); (case hS => exact .tail _ (.tail _ (.tail _ (.tail _ (.tail _ hS))))); (case hdS => exact .tail _ (.tail _ (.tail _ (.tail _ (.tail _ hdS)))))); intro h' tk' tq F' N')
    k_steps
    k_dflt (refine' take_ok ?B ?F ?X ?T ?hdp ?hun ?N ?hI ?ho frd fc ?hn ?hn1 ?hlen ?hz ?_; (case B => k_asm); (case F => k_asm); (case X => k_asm); (case T => k_asm); (case hdp => ktr_room); (case hun => ktr_units); (case N => k_asm); (case hI => k_memK); (case hn => exact hwz); (case hn1 => exact b1); (case hlen => exact hlen); (case hz => exact hz))
    case ho =>
      intro p hp q hq
      rw [List.mem_singleton.mp hq]
      rcases List.mem_cons.mp hp with rfl | hp
      · exact Nat.ne_of_gt l7
      · rcases List.mem_cons.mp hp with rfl | hp
        · exact Nat.ne_of_gt r4
        · rcases List.mem_cons.mp hp with rfl | hp
          · exact Nat.ne_of_gt l2
          · rcases List.mem_cons.mp hp with rfl | hp
            · exact Nat.ne_of_gt (Nat.lt_trans l7 l5)
            · exact Nat.ne_of_lt (ltN (l1 p hp))
    intro h7 tk7 v tv at2 held2 ct2 t7 F7 N7 tr
    obtain ⟨rd2, hpos, hc2⟩ := rd_take frd tr fc hwz b1
    obtain ⟨rfl, fl2⟩ := left_take fl ff rd2 (by omega)
    have ff2 : Fits (wlist b wd e (stepC b wd c g v).1 (stepC b wd c g v).2 r) := fun p hp => ff p (.tail _ hp)
    clear F5 N5 fl ff frd tr hlen
    have hrv : rv.length < 100 := by
      have := congrArg List.length fa
      simp only [List.length_append, List.length_cons, List.length_nil] at this
      rw [fi.length]; omega
    have hrv2 : rv.toArray.size < 100 := by rw [List.size_toArray]; exact hrv
    have off : OwnOff news [RL] := fun p hp q hq => by rw [List.mem_singleton.mp hq]; exact Nat.ne_of_lt (Nat.lt_trans (ltN (l1 p hp)) r4)
    have offs : RL ≠ dI ∧ RL ≠ dW ∧ RL ≠ I ∧ RL ≠ W := ⟨Nat.ne_of_gt r4, Nat.ne_of_gt r2, Nat.ne_of_gt r3, Nat.ne_of_gt r1⟩
    k_with_none
    k_with "call builtin:list.append" => (k_dflt (refine' append_K ?k1 ?k2 ?k3 ?_ ?z; (case k1 => k_asm); (case k2 => k_asm); (case k3 => k_upd); (case z => first | size_fits | (rw [PySem.sizeLine_eq]; omega)); k_whole); intro h' F' N'; (try k_sweep))
    k_with "stop" => (with_reducible show wpAny _ _ (exec (Stmt.If _ _ _ _) _) _ _ _)
    k_steps
    rename Fr _ _ _ _ => F8
    rename News _ _ _ _ => N8
    rw [List.push_toArray] at N8
    have fi2 : IntsAre (rv ++ [.int v tv]) (dn ++ [v]) := ints_push fi
    have ls1 := ltN (l1 _ hS)
    have ls2 := ltN (l1 _ hdS)
    dsimp only at ls1 ls2
    replace N8 := news_add1 (news_add1 N8 (.tail _ (.tail _ (.tail _ (.tail _ (.tail _ hdS)))))) (.tail _ (.tail _ (.tail _ (.tail _ (.tail _ (.tail _ hS))))))
    replace F8 := fr_map F8 (m' := fun y => if y = Str.ofString "code" then some (.int v tv) else if y = Str.ofString "codes" then some (.ref RL) else if y = Str.ofString "count" then some (.ref W) else if y = Str.ofString "source" then some (.ref I) else if y = Str.ofString "data" then some (.bytes d td) else if y = Str.ofString "sizes" then some (.ref S) else none) (fun y => by
      by_cases hy : y = Str.ofString "code"
      · subst hy; rfl
      · rw [if_neg hy, if_neg hy, if_neg hy])
    cases r with
    | nil =>
      have hv : v = 2 ^ b.toNat + 1 := (List.append_inj_right' fa rfl |> fun h => by cases h; rfl)
      subst hv
      k_with_none
      k_with "stop" => (with_reducible show wpAny _ _ (call (Value.ref 216) _) _ _ _)
      k_steps
      · rename Fr _ _ _ _ => kF
        rename News _ _ _ _ => kN
        exact ret _ _ _ _ _ kF (fun p hp => kN p (by
          rcases List.mem_cons.mp hp with rfl | hp
          · exact .tail _ (.tail _ (.tail _ (.tail _ (.head _))))
          · exact .tail _ (.tail _ (.tail _ (.tail _ (.tail _ (.tail _ (.tail _ hp)))))))) (fun p hp => Nat.lt_trans (ltN (l1 p hp)) r4) (by rw [← fa]; exact fi2)
      · exact absurd rfl (by assumption)
    | cons y r =>
      have hv : v ≠ 2 ^ b.toNat + 1 := by
        refine hne v ?_
        have h2 : dn ++ v :: y :: r = (dn ++ v :: (y :: r).dropLast) ++ [(y :: r).getLast (by simp)] := by
          rw [List.append_assoc, List.cons_append, List.dropLast_concat_getLast]
        rw [h2] at fa
        have := (List.append_inj' fa rfl).1
        rw [← this]
        simp
      have offD : OwnOff news [dW] := fun p hp q hq => by rw [List.mem_singleton.mp hq]; exact Nat.ne_of_lt (Nat.lt_trans (ltN (l1 p hp)) l7)
      k_with_none
      k_with "stop" => first | (with_reducible show wpAny _ _ (call (Value.ref 216) _) _ _ _) | (with_reducible show KswEnd _ _ _ _ _ _ _ _ _ _ _ _)
      k_steps
      · exact absurd (by assumption) hv
      k_dflt (refine' passed_use ?B ?F ?X ?T ?hdp ?hun ?hb0 ?N ?U ?hW ?hS ?hdS ?_; (case B => k_asm); (case F => k_asm); (case X => k_asm); (case T => k_asm); (case hdp => ktr_room); (case hun => ktr_units); (case hb0 => assumption); (case N => k_asm); (case hW => k_memK); (case U => (intro o'; k_upd)); (case hS => k_memK); (case hdS => k_memK))
      intro h' tk' tq cq gq F' N' hq
      k_with_none
      k_with "stop" => (with_reducible show KswEnd _ _ _ _ _ _ _ _ _ _ _ _)
      k_steps
      rename Fr _ _ _ _ => kF
      rename News _ _ _ _ => kN
      have hc' : cq = (stepC b wd c g v).1 := congrArg Prod.fst hq
      have hg' : gq = (stepC b wd c g v).2 := congrArg Prod.snd hq
      subst hc' hg'
      refine ksw_end ⟨y :: r, dn ++ [v], _, _, at2, held2, ct2, _, _, _, t7, tq⟩ kF kN (fun p hp => .tail _ (.tail _ hp)) ⟨fi2, ?_, by simp, rd2, hc2, fl2, ff2⟩ (by intro _ h; cases h) ?_ trivial ?_
      · show (dn ++ [v]) ++ y :: r = _
        rw [← fa, List.append_assoc]; rfl
      · intro z _ hz
        have hz' : z ≠ Str.ofString "code" := by
          intro e; subst e; revert hz; decide
        show (if z = Str.ofString "code" then _ else _) = _
        rw [if_neg hz']
      · show (y :: r).length < (v :: y :: r).length
        exact Nat.lt_succ_self _
end

local macro_rules | `(tactic| k_in) => `(tactic| first | assumption | exact Frag.In.keeps (by k_asm) (Fr.keep (by k_asm)))

theorem call_fullC {prog : Program} {w : World} {A : Around} {R : Result → Shared → Prop} {s : Shared} {name : Str} {params : Arguments} {body : List Stmt} {scope : Scope}
    {dV kV pm cd doc : Value} {a : Addr} {o : Obj} {args : Args} {binds : List (Str × Value)}
    (hroom : A.depth < recursionLimit) (ho : s.heap.get? a = some o) (hdata : o.data = .func { docDef name params body scope pm cd doc with defaults := dV, kwdefaults := kV }) (hlim : s.heap.NoLimit) (hcd : s.heap.CodeRec cd name)
    (hbind : BindsTo s { docDef name params body scope pm cd doc with defaults := dV, kwdefaults := kV } args binds)
    (hloc : ∀ x ∈ binds, scope.names.lookup x.1 = some .local)
    (h : ∀ h₁, Fr s.heap s.heap.objs.size h₁ (fun x => binds.reverse.lookup x) →
      wpC (model prog w) (A.deeper (envOf name scope s.heap.objs.size a cd)) (execs body (envOf name scope s.heap.objs.size a cd))
        (fun f s' => R (.ok (.ret (match f with | .ret v => v | _ => .none))) s') (fun _ _ => False) { s with heap := h₁, toks := s.toks + binds.length })
    (hco : scope.isCoroutine = false := by rfl) (hgen : scope.isGenerator = false := by rfl) (hk : scope.kind = .function := by rfl)
    (hcell : ∀ x ∈ scope.names, x.2 ≠ .cell := by decide) : codeC (model prog w) A (.call (.ref a) args) R s := by
  refine codeC_call_function hroom ho hdata hco hgen rfl hcd (hbind _ _ _ _ ?_)
  refine wpAny_newFunctionEnv hcell hloc (fun h₁ hns hsb => ⟨hlim.fresh _ hsb, codeC_func (h h₁ ⟨hns, fun b o e => hsb.extBut b o (Nat.ne_of_lt (Heap.lt_size e)) (Heap.get?_push_of_some _ e), Nat.le_refl _⟩)⟩) hk
theorem pow_b {b : Int} (h0 : 2 ≤ b) (h1 : b ≤ 4) : 4 ≤ (2 : Int) ^ b.toNat ∧ (2 : Int) ^ b.toNat ≤ 16 := by
  have h : b = 2 ∨ b = 3 ∨ b = 4 := by omega
  rcases h with rfl | rfl | rfl <;> decide
theorem pow_w {b w : Int} (h0 : 2 ≤ b) (h1 : b ≤ 4) (h2 : b + 1 ≤ w) (h3 : w ≤ b + 3) : (2 : Int) ^ w.toNat ≤ 128 := by
  have h : w = 3 ∨ w = 4 ∨ w = 5 ∨ w = 6 ∨ w = 7 := by omega
  rcases h with rfl | rfl | rfl | rfl | rfl <;> decide
theorem pen_ne {h₀ h : Heap} {L P C : Addr} {news : List (Addr × Obj)} {cells : List Value} {ns : List Int} {i d : Int} {ti td : Tok} {n₁ n₂ : Nat} (N : News h₀ L h news) (hP : (P, listOf [Value.ref C, .int i ti, .int d td].toArray n₁) ∈ news) (hC : (C, listOf cells.toArray n₂) ∈ news) (hi : IntsAre cells ns) : @LT.lt Nat _ C P ∨ @LT.lt Nat _ P C := by
  refine Nat.lt_or_gt_of_ne ?_
  intro e
  subst e
  have h1 := (N _ hP).1
  have h2 := (N _ hC).1
  rw [h1] at h2
  have h3 := congrArg (fun o : Option Obj => o.map (·.data)) h2
  simp only [Option.map_some, Option.some.injEq, Data.seq.injEq] at h3
  have h4 := h3.1
  have h5 := congrArg Array.toList h4
  simp only [List.toList_toArray] at h5
  subst h5
  cases hi
noncomputable def LwJ (w : World) (bits widest early : Int) (P C S dS W dW LC : Addr) (cells : List Value) (tw tb te : Tok) (t4 : Nat → Tok) (i : Nat) (m : Str → Option Value) (nx : List (Addr × Obj)) : Prop :=
  ∃ (pi pd : Int) (ti td tt : Tok) (TA : Addr) (tv : List Value) (tn : Nat) (cv : List Value) (cs : List Int) (cn : Nat) (c : Int) (g : Bool) (T : Int) (t : Nat → Tok) (bf : Value),
    nx = [(P, listOf [.ref C, .int pi ti, .int pd td].toArray 0), (dW, coObj w S c g t), (LC, listOf cv.toArray cn), (TA, listOf tv.toArray tn), (W, instObj 219 dW), (S, instObj 184 dS), (dS, szObj w bits widest early t4), (C, listOf cells.toArray 0)] ∧
    (∀ p ∈ [(Str.ofString "total", Value.int T tt), (Str.ofString "codes", .ref LC), (Str.ofString "before", bf), (Str.ofString "table", .ref TA), (Str.ofString "follows", .ref W), (Str.ofString "sizes", .ref S), (Str.ofString "widest", .int widest tw), (Str.ofString "bits", .int bits tb), (Str.ofString "early", .int early te), (Str.ofString "pen", .ref P)], m p.1 = some p.2) ∧
    (tv.toArray.size : Int) = c ∧ LawOk bits widest early cs c g T ∧ IntsAre cv cs ∧ cs.length ≤ i ∧ 0 ≤ pi ∧ pi ≤ 4 + 4 * (i : Int) ∧ 0 ≤ pd ∧ (g = false ∧ bf = .none ∨ g = true ∧ ∃ x tx, bf = .int x tx) ∧ @LT.lt Nat _ W TA ∧ (@LT.lt Nat _ LC TA ∨ @LT.lt Nat _ TA LC)
theorem cut_if {M : Model} {A : Around} {E : Value → Shared → Prop} {s : Shared} {X : Sem Flow} {Q : Flow → Shared → Prop} {h₀ : Heap} {L : Addr} {m : Str → Option Value} {led : List (Addr × Obj)} (_F : Fr h₀ L s.heap m) (_N : News h₀ L s.heap led)
    (h : wpAny M A X (fun f s' => f = .next ∧ ∃ h' tk', s' = { s with heap := h', toks := tk' } ∧ Fr h₀ L h' m ∧ News h₀ L h' led) E s) (k : ∀ h' tk', Fr h₀ L h' m → News h₀ L h' led → Q .next { s with heap := h', toks := tk' }) : wpAny M A X Q E s :=
  wpAny_mono h (fun f s' q => by obtain ⟨rfl, h', tk', rfl, F', N'⟩ := q; exact k h' tk' F' N') fun _ _ x => x
theorem cut_code {M : Model} {A : Around} {E : Value → Shared → Prop} {s : Shared} {X : Sem Flow} {Q : Flow → Shared → Prop} {h₀ : Heap} {L P C : Addr} {m : Str → Option Value} {led : List (Addr × Obj)} {pi pd : Int} {ti td : Tok} (R : Int → Prop) (_F : Fr h₀ L s.heap m) (_N : News h₀ L s.heap ((P, listOf [.ref C, .int pi ti, .int pd td].toArray 0) :: led))
    (h : wpAny M A X (fun f s' => f = .next ∧ ∃ h' tk' x tx pi' pd' ti' td', s' = { s with heap := h', toks := tk' } ∧ Fr h₀ L h' (fun y => if y = Str.ofString "code" then some (.int x tx) else m y) ∧ News h₀ L h' ((P, listOf [.ref C, .int pi' ti', .int pd' td'].toArray 0) :: led) ∧ R x ∧ pi ≤ pi' ∧ pi' ≤ pi + 2 ∧ 0 ≤ pd') E s)
    (k : ∀ h' tk' x tx pi' pd' ti' td', Fr h₀ L h' (fun y => if y = Str.ofString "code" then some (.int x tx) else m y) → News h₀ L h' ((P, listOf [.ref C, .int pi' ti', .int pd' td'].toArray 0) :: led) → R x → pi ≤ pi' → pi' ≤ pi + 2 → 0 ≤ pd' → Q .next { s with heap := h', toks := tk' }) : wpAny M A X Q E s :=
  wpAny_mono h (fun f s' q => by obtain ⟨rfl, h', tk', x, tx, pi', pd', ti', td', rfl, F', N', a, b, c, d⟩ := q; exact k h' tk' x tx pi' pd' ti' td' F' N' a b c d) fun _ _ x => x
theorem upto_pick {items : List Value} {y : Int} (h : 0 ≤ y) : (slicePick items.toArray none (some y) none).toList = items.take y.toNat := by
  have e : sliceBounds none (some y) none items.toArray.size = (((0 : Nat) : Int), ((min y.toNat items.toArray.size : Nat) : Int), 1) := by
    simp only [sliceBounds, Option.getD_none, show (1 : Int) > 0 by decide, if_true, if_neg (show ¬ (y < 0) by omega)]
    congr 1
    congr 1
    omega
  rw [kmk_pick_nat _ e]
  show (items.drop 0).take (min y.toNat items.toArray.size - 0) = _
  rw [List.drop_zero, Nat.sub_zero, List.size_toArray, kmk_take_min]
theorem step_cases {b wd c c' x : Int} {g g' : Bool} (h : (c', g') = stepC b wd c g x) : (x = 2 ^ b.toNat ∧ c' = 2 ^ b.toNat + 2 ∧ g' = false) ∨ (x ≠ 2 ^ b.toNat ∧ g = true ∧ c < 2 ^ wd.toNat ∧ c' = c + 1 ∧ g' = true) ∨ (x ≠ 2 ^ b.toNat ∧ (g = false ∨ 2 ^ wd.toNat ≤ c) ∧ c' = c ∧ g' = true) := by
  unfold stepC at h
  by_cases h1 : x = 2 ^ b.toNat
  · rw [if_pos h1] at h
    cases h
    exact .inl ⟨h1, rfl, rfl⟩
  · rw [if_neg h1] at h
    by_cases h2 : g = true ∧ c < 2 ^ wd.toNat
    · rw [if_pos h2] at h
      cases h
      exact .inr (.inl ⟨h1, h2.1, h2.2, rfl, rfl⟩)
    · rw [if_neg h2] at h
      cases h
      refine .inr (.inr ⟨h1, ?_, rfl, rfl⟩)
      cases g
      · exact .inl rfl
      · exact .inr (Int.not_lt.mp fun q => h2 ⟨rfl, q⟩)
theorem slice_ok {prog : Program} {w : World} {A : Around} {E : Value → Shared → Prop} {s : Shared} {h₀ : Heap} {L l : Addr} {m : Str → Option Value} {news : List (Addr × Obj)} {value slice : PySem.Expr} {tv : List Value} {n : Nat} {y : Int} {ty : Tok} {Q : Value → Shared → Prop} (F : Fr h₀ L s.heap m) (N : News h₀ L s.heap news) (hm : (l, listOf tv.toArray n) ∈ news) (hy : 0 ≤ y) (hz : tv.toArray.size ≤ 100000)
    (h : ∀ D h', Fr h₀ L h' m → News h₀ L h' ((D, listOf (tv.take y.toNat).toArray 0) :: news) → (∀ p ∈ news, p.1 < D) → Q (.ref D) { s with heap := h' })
    (hs : subscripted slice false (.ref l) (.ref s.heap.objs.size) = operate [.ref s.heap.objs.size, .ref l] (getItem (.ref l) (.ref s.heap.objs.size))) (ht : ∀ r, letTemporaryGo value (.ref l) r = pure ()) :
    wpAny (model prog w) A (subscriptTail value slice (.ref l) (.ref s.heap.objs.size)) Q E { s with heap := s.heap.push { cls := .type "slice", data := .fields #[.none, .int y ty, .none] } } :=
  kmk_slice_lit F N (News.isList N hm) (by kmk_part) (by kmk_part) (upto_pick hy) h hs ht (by rw [PySem.sizeLine_eq]; omega)
theorem len_ok {prog : Program} {w : World} {A : Around} {E : Value → Shared → Prop} {s : Shared} {h₀ : Heap} {L l : Addr} {news : List (Addr × Obj)} {items : Array Value} {n : Nat} {k : Int} {Q : Value → Shared → Prop} (N : News h₀ L s.heap news) (hm : (l, listOf items n) ∈ news) (hk : (items.size : Int) = k) (hz : k ≤ 16384) (h : ∀ x tk, Q (.int k x) { s with toks := tk }) :
    wpAny (model prog w) A (call (.builtin "len") [.ref l]) Q E s := kun_lenL (News.isList N hm) hk hz (h _ _)
theorem enter_callC {M : Model} {A : Around} {s : Shared} {f : Value} {pos : List Value} {kw : List (Str × Value)} {c : ClaimW} {cl : Str → Option Addr} {mean : ExcName → Option Value} {args : List WData} {s₁ : Shared}
    (h : codeC M A (.call f ⟨pos, kw⟩) (GoodWG c cl mean args s₁) s) : wpC M A (PySem.call f pos kw) (fun v s' => GoodWG c cl mean args s₁ (.ok (.ret v)) s') (fun e s' => GoodWG c cl mean args s₁ (.error e) s') s :=
  wpC_call (codeC_mono h fun res s' g => by rcases g.1 with ⟨v, _, _, rfl, _⟩ | ⟨e, _, _, rfl, _⟩ <;> exact g)
theorem ne8 {I a1 a2 a3 a4 a5 a6 a7 a8 : Addr} {o1 o2 o3 o4 o5 o6 o7 o8 : Obj} (h1 : a1 ≠ I) (h2 : a2 ≠ I) (h3 : a3 ≠ I) (h4 : a4 ≠ I) (h5 : a5 ≠ I) (h6 : a6 ≠ I) (h7 : a7 ≠ I) (h8 : a8 ≠ I) : ∀ p ∈ [(a1, o1), (a2, o2), (a3, o3), (a4, o4), (a5, o5), (a6, o6), (a7, o7), (a8, o8)], p.1 ≠ I := by
  intro p hp
  simp only [List.mem_cons, List.not_mem_nil, or_false] at hp
  rcases hp with rfl | rfl | rfl | rfl | rfl | rfl | rfl | rfl <;> assumption
set_option maxRecDepth 100000 in
set_option maxHeartbeats 8000000 in
theorem law_holds : PySem.Challenge.rw_og0144_01.Holds := Mine.hd (by
  k_with_none
  k_with "draw" => (k_dflt (refine' draw_use ?B ?F ?X ?N ?T ?hk ?U ?hC ?hi ?hl0 ?hl1 ?hi0 ?hi1 ?hd0 ?hm ?hm2 ?hdp ?hun ?_; (case B => k_asm); (case F => k_asm); (case X => k_asm); (case N => k_asm); (case T => k_asm); (case hk => rfl); (case U => (intro o; k_upd)); (case hC => k_mem); (case hi => assumption); (case hl0 => first | omega | (simp only [List.length_append, List.length_map, List.length_take, List.length_cons, List.length_nil]; omega)); (case hl1 => first | omega | (simp only [List.length_append, List.length_map, List.length_take, List.length_cons, List.length_nil]; omega)); (case hi0 => omega); (case hi1 => omega); (case hd0 => omega); (case hm => omega); (case hm2 => omega); (case hdp => ((try simp only [depth_under_make, depth_under_kw, depth_in1, depth_deeper, depth_caller]); decide)); (case hun => ((try simp only [units_in1, units_deeper, Around.mark_units, units_caller]); decide))))
  k_fill
  intro w s₀ s₁ mg mb G Y fa o pm cd doc dV kV ho hd hcd hD hmg hg args vals as hpre hlay hrd hwl hlo
  have KX := kIn_of Y
  have X := (Ground.X G).1
  have V := (Ground.X G).2
  refine Ground.open G ?_
  intro T B D TE TW
  try (refine guard_noD D (by decide +kernel) ?_; clear D)
  obtain ⟨_, _, M⟩ := bmod_of_top T
  have TA := at_of_top T
  try (obtain ⟨_, _, he, B0⟩ := based_of_top T rfl hmg ho hd; have he' : cd = _ := he; subst he'; clear he)
  clear hmg
  wrow_args hpre hlay hrd hwl hlo
  refine enter_callC ?_
  w_top on
  refine codeC_mono ?_ (fun _ _ g => GoodW.toG g)
  have K0 := below_caller (Top.heap T)
  have he := Dflts.none hD rfl
  subst he
  refine call_fullC (by decide) ho hd (Top.nolimit T) hcd (BindsTo.of_eq rfl) (locs rfl) fun h₁ F => ?_
  w_binds F
  have N0 := (News.nil : News _ _ _ []).at F
  clear hd TA
  k_drop
  k_with "stop" => (with_reducible show wpAny _ _ (call (Value.ref 244) _) _ _ _)
  refine wpC_execs_cons (wpC.of ?_)
  all_goals (try k_fold)
  k_steps
  refine wpC_execs_cons (wpC.of ?_)
  k_fold
  k_steps
  k_extra "draw"
  intro h1 k1 i1 d1 r1 tr1 ti1 td1 F1 N1 hr10 hr11 hi10 hi11 hd10
  k_steps
  k_extra "draw"
  intro h2 k2 i2 d2 r2 tr2 ti2 td2 F2 N2 hr20 hr21 hi20 hi21 hd20
  k_steps
  refine wpC_execs_cons (wpC.of ?_)
  k_fold
  k_steps
  k_extra "draw"
  intro h3 k3 i3 d3 r3 tr3 ti3 td3 F3 N3 hr30 hr31 hi30 hi31 hd30
  k_with_none
  k_steps
  rename Fr _ _ _ _ => F5
  rename News _ _ _ _ => N5
  obtain ⟨widest, hwid⟩ : ∃ b : Int, 2 + r1 + 1 + r3 = b := ⟨_, rfl⟩
  rw [hwid] at F5
  obtain ⟨bits, hbits⟩ : ∃ b : Int, 2 + r1 = b := ⟨_, rfl⟩
  rw [hbits] at F5 N5
  obtain ⟨P, C, cells, ns, tw, tb, te, m0, F6, N6, hi6, hl60, hl61⟩ : ∃ (P C : Addr) (cells : List Value) (ns : List Int) (tw tb te : Tok) (m0 : Str → Option Value), Fr _ _ _ (fun y => if y = Str.ofString "widest" then some (.int widest tw) else if y = Str.ofString "bits" then some (.int bits tb) else if y = Str.ofString "early" then some (.int r2 te) else if y = Str.ofString "pen" then some (.ref P) else m0 y) ∧
    News _ _ _ [(P, listOf [.ref C, .int i3 ti3, .int d3 td3].toArray 0), (C, listOf cells.toArray 0)] ∧ IntsAre cells ns ∧ 2 ≤ ns.length ∧ ns.length < 100 := by
    refine ⟨_, _, _, _, _, _, _, _, F5, kst_newsOf N5 (by kst_inAny), by assumption, ?_, ?_⟩
    · simp only [List.length_append, List.length_map, List.length_take, List.length_cons, List.length_nil]; omega
    · simp only [List.length_append, List.length_map, List.length_take, List.length_cons, List.length_nil]; omega
  have b0 : 2 ≤ bits := by omega
  have b1 : bits ≤ 4 := by omega
  have w0 : bits + 1 ≤ widest := by omega
  have w1 : widest ≤ bits + 3 := by omega
  have i30 : 0 ≤ i3 := by omega
  have i31 : i3 ≤ 3 := by omega
  clear F5 N5 hwid hbits hr10 hr11 hi10 hi11 hd10 hi20 hi21 hd20 hr30 hr31 hi30 hi31
  k_sweep
  k_with_none
  k_with "stop" => (with_reducible show wpAny _ _ (call (Value.ref 184) _) _ _ _)
  refine wpC_execs_cons (wpC.of ?_)
  k_fold
  k_steps
  k_dflt (refine' sizes_new ?B ?F ?X ?T ?hdp ?hun ?N b0 b1 w0 w1 ?_; (case B => k_asm); (case F => k_asm); (case X => k_asm); (case T => k_asm); (case hdp => ((try simp only [depth_under_make, depth_under_kw, depth_in1, depth_deeper, depth_caller]); decide)); (case hun => ((try simp only [units_in1, units_deeper, Around.mark_units, units_caller]); decide)); (case N => k_asm))
  intro h4 k4 S dS t4 F7 N7 l1 l2
  k_lt2 l2
  have l3 := ltN (l1 _ (.head _))
  have l4 := ltN (l1 _ (.tail _ (.head _)))
  dsimp only at l3 l4
  k_with_none
  k_steps
  refine wpC_execs_cons (wpC.of ?_)
  k_fold
  k_steps
  k_with_none
  k_with "stop" => (with_reducible show wpAny _ _ (call (Value.ref 219) _) _ _ _)
  refine wpC_execs_cons (wpC.of ?_)
  k_fold
  k_steps
  k_dflt (refine' count_new ?B ?F ?X ?T ?hdp ?hun ?N ?hS ?hdS ?_; (case B => k_asm); (case F => k_asm); (case X => k_asm); (case T => k_asm); (case hdp => ((try simp only [depth_under_make, depth_under_kw, depth_in1, depth_deeper, depth_caller]); decide)); (case hun => ((try simp only [units_in1, units_deeper, Around.mark_units, units_caller]); decide)); (case N => k_asm); (case hS => k_memK); (case hdS => k_memK))
  intro h5 k5 W dW t5 F8 N8 l5 l6
  k_lt2 l6
  k_with_none
  k_steps
  have hpb : 4 ≤ (2 : Int) ^ bits.toNat ∧ (2 : Int) ^ bits.toNat ≤ 16 := pow_b b0 b1
  have hpw : (2 : Int) ^ widest.toNat ≤ 128 := pow_w b0 b1 w0 w1
  k_with "call type:list" => (k_dflt (refine' kll_range (n := (2 ^ bits.toNat + 2 : Int).toNat) ?k0 ?k1 ?k2 ?k3 ?k4 ?k5 ?k6 ?_; (case k0 => rfl); (case k1 => k_asm); (case k2 => k_asm); (case k3 => assumption); (case k4 => exact small_one (by omega) (by omega) (by omega) (by omega)); (case k5 => rw [rangeSize_nat, Int.sub_zero]); (case k6 => omega)); intro TA us tn h' tk' F' N' lT hIT)
  refine wpC_execs_cons (wpC.of ?_)
  k_fold
  k_steps
  k_with_none
  refine wpC_execs_cons (wpC.of ?_)
  k_fold
  k_steps
  refine wpC_execs_cons (wpC.of ?_)
  k_fold
  k_steps
  refine wpC_execs_cons (wpC.of ?_)
  k_fold
  k_steps
  rename Fr _ _ _ _ => F9
  rename News _ _ _ _ => N9
  obtain ⟨LC, tt, F, N, lL⟩ : ∃ (LC : Addr) (tt : Tok), Fr _ _ _ (fun y => if y = Str.ofString "total" then some (.int 0 tt) else if y = Str.ofString "codes" then some (.ref LC) else if y = Str.ofString "before" then some .none else if y = Str.ofString "table" then some (.ref TA) else if y = Str.ofString "follows" then some (.ref W) else if y = Str.ofString "sizes" then some (.ref S) else if y = Str.ofString "widest" then some (.int widest tw) else if y = Str.ofString "bits" then some (.int bits tb) else if y = Str.ofString "early" then some (.int r2 te) else if y = Str.ofString "pen" then some (.ref P) else m0 y) ∧
      News _ _ _ [(P, listOf [.ref C, .int i3 ti3, .int d3 td3].toArray 0), (dW, coObj w S (2 ^ bits.toNat + 2) false t5), (LC, listOf #[] 0), (TA, listOf us.toArray tn), (W, instObj 219 dW), (S, instObj 184 dS), (dS, szObj w bits widest r2 t4), (C, listOf cells.toArray 0)] ∧
      (@LT.lt Nat _ TA LC ∧ @LT.lt Nat _ W LC ∧ @LT.lt Nat _ dW LC ∧ @LT.lt Nat _ S LC ∧ @LT.lt Nat _ dS LC ∧ @LT.lt Nat _ P LC ∧ @LT.lt Nat _ C LC) := by
    rename (TA < _ ∧ _) => lL0
    exact ⟨_, _, F9, kst_newsOf N9 (by kst_inAny), lL0.1, lL0.2.1, lL0.2.2.1, lL0.2.2.2.2.2.1, lL0.2.2.2.2.2.2.1, lL0.2.2.2.2.2.2.2.1, lL0.2.2.2.2.2.2.2.2⟩
  have lT1 := ltN (lT _ (.head _))
  dsimp only at lT1
  have hus : us.length = (2 ^ bits.toNat + 2 : Int).toNat := by rw [hIT.length, rangeKs_length]
  have lW : @LT.lt Nat _ S dW ∧ @LT.lt Nat _ dS dW ∧ @LT.lt Nat _ P dW ∧ @LT.lt Nat _ C dW := by
    have q1 := ltN (l5 _ (.tail _ (.tail _ (.head _))))
    have q2 := ltN (l5 _ (.tail _ (.tail _ (.tail _ (.head _)))))
    have q3 := ltN (l5 _ (.tail _ (.tail _ (.tail _ (.tail _ (.head _))))))
    have q4 := ltN (l5 _ (.tail _ (.tail _ (.tail _ (.tail _ (.tail _ (.head _)))))))
    exact ⟨q1, q2, q3, q4⟩
  have lP := pen_ne N (.head _) (.tail _ (.tail _ (.tail _ (.tail _ (.tail _ (.tail _ (.tail _ (.head _)))))))) (by assumption)
  clear F9 N9 lT l5 hIT
  k_with_none
  k_with "draw" => (k_dflt (refine' draw_use ?B ?F ?X ?N ?T ?hk ?U ?hC ?hi ?hl0 ?hl1 ?hi0 ?hi1 ?hd0 ?hm ?hm2 ?hdp ?hun ?_; (case B => k_asm); (case F => k_asm); (case X => k_asm); (case N => k_asm); (case T => k_asm); (case hk => rfl); (case U => (intro o; k_upd)); (case hC => k_mem); (case hi => assumption); (case hl0 => first | omega | (simp only [List.length_append, List.length_map, List.length_take, List.length_cons, List.length_nil]; omega)); (case hl1 => first | omega | (simp only [List.length_append, List.length_map, List.length_take, List.length_cons, List.length_nil]; omega)); (case hi0 => omega); (case hi1 => omega); (case hd0 => omega); (case hm => omega); (case hm2 => omega); (case hdp => ((try simp only [depth_under_make, depth_under_kw, depth_in1, depth_deeper, depth_caller]); decide)); (case hun => ((try simp only [units_in1, units_deeper, Around.mark_units, units_caller]); decide))))
  k_with "stop" => first | (with_reducible show wpAny _ _ (call (Value.ref 244) _) _ _ _) | (with_reducible show wpAny _ _ (pyIter _) _ _ _)
  refine wpC_execs_cons (wpC.of ?_)
  k_fold
  refine for_inv F rfl rfl ?_ (fun _ => rfl) (by first | passes_own | with_unfolding_all passes_own)
  k_steps
  k_extra "draw"
  intro h6 k6 i6 d6 r6 tr6 ti6 td6 F10 N10 hr60 hr61 hi60 hi61 hd60
  k_steps
  rename Fr _ _ _ _ => F11
  rename News _ _ _ _ => N11
  refine forR (n := r6.toNat) (LwJ w bits widest r2 P C S dS W dW LC cells tw tb te t4) rfl (by assumption) (small_one (by omega) (by omega) (by omega) (by omega)) (by rw [rangeSize_nat, Int.sub_zero]) F11 N11 ?hj ?turn ?done
  case hj =>
    refine ⟨i6, d6, ti6, td6, tt, TA, us, tn, [], [], 0, _, false, 0, t5, .none, rfl, ?_, ?_, lawOk_nil b0 w0, .nil, Nat.le_refl _, ?_, ?_, hd60, .inl ⟨rfl, rfl⟩, lT1, .inr lL.1⟩
    · kst_all
    · rw [List.size_toArray, hus]; omega
    · omega
    · omega
  case turn =>
    clear F F11 N N11
    intro i tu m₁ nx h tk I o hin hJ hnI hne F N
    obtain ⟨pi, pd, ti, td, tt, TA, tv, tn, cv, cs, cn, c, g, TT, t, bf, rfl, hm, hlen, hok, hci, hcl, hp0, hp1, hd0, hbf, lTW, lTL⟩ := hJ
    have hmE : ∀ y, kstB m₁ _ y = m₁ y := fun y => kstB_eq hm (fun _ => rfl)
    replace F := fr_map F (m' := fun y => if y = Str.ofString "turn" then some (.int (i : Int) tu) else if y = Str.ofString "total" then some (.int TT tt) else if y = Str.ofString "codes" then some (.ref LC) else if y = Str.ofString "before" then some bf else if y = Str.ofString "table" then some (.ref TA) else if y = Str.ofString "follows" then some (.ref W) else if y = Str.ofString "sizes" then some (.ref S) else if y = Str.ofString "widest" then some (.int widest tw) else if y = Str.ofString "bits" then some (.int bits tb) else if y = Str.ofString "early" then some (.int r2 te) else if y = Str.ofString "pen" then some (.ref P) else m₁ y) (fun y => congrArg (fun v => if y = Str.ofString "turn" then some (Value.int (i : Int) tu) else v) (hmE y))
    have iP := hnI _ (.head _)
    have idW := hnI _ (.tail _ (.head _))
    have iLC := hnI _ (.tail _ (.tail _ (.head _)))
    have iW := hnI _ (.tail _ (.tail _ (.tail _ (.tail _ (.head _)))))
    have iS := hnI _ (.tail _ (.tail _ (.tail _ (.tail _ (.tail _ (.head _))))))
    have idS := hnI _ (.tail _ (.tail _ (.tail _ (.tail _ (.tail _ (.tail _ (.head _)))))))
    have iC := hnI _ (.tail _ (.tail _ (.tail _ (.tail _ (.tail _ (.tail _ (.tail _ (.head _))))))))
    have iTA : @LT.lt Nat _ TA I ∨ @LT.lt Nat _ I TA := Nat.lt_or_gt_of_ne (hne _ (.tail _ (.tail _ (.tail _ (.head _)))))
    dsimp only at iP idW iLC iW iS idS iC
    have hok' := hok
    obtain ⟨-, hc0, hc1, -, -, -⟩ := hok'
    obtain ⟨z1, z2, z3, z4, z5⟩ := wdZ_facts (e := r2) b0 w0 (show 1 ≤ c by omega) hc1 hr20
    have hi31 : (i : Int) < 31 := by omega
    clear hm hmE hnI hne
    simp only [List.cons_append, List.nil_append] at N
    generalize hwz : wdZ bits widest r2 c = wz at z1 z2 z3 z4 z5
    k_with_none
    k_with_none
    --TURN
    k_with "call builtin:len" => (k_dflt (refine' len_ok ?N ?hm hlen ?hz ?_; (case N => k_asm); (case hm => k_memK); (case hz => omega)); intro _ _)
    k_with "call ref" => ((with_reducible show wpAny _ _ (call (Value.ref 209) _) _ _ _); k_dflt (refine' width_ok ?B ?F ?X ?T ?hdp ?hun ?N ?hW ?hdW ?hS ?hdS ?_; (case B => k_asm); (case F => k_asm); (case X => k_asm); (case T => k_asm); (case hdp => ((try simp only [depth_under_make, depth_under_kw, depth_in1, depth_deeper, depth_caller]); decide)); (case hun => ((try simp only [units_in1, units_deeper, Around.mark_units, units_caller]); decide)); (case N => k_asm); (case hW => k_memK); (case hdW => k_memK); (case hS => k_memK); (case hdS => k_memK)); intro h' tk' tq F' N'; rw [hwz])
    k_with "call ref" => ((with_reducible show wpAny _ _ (call (Value.ref 181) _) _ _ _); k_dflt (refine' swidth_ok ?B ?F ?X ?T ?hdp ?hun ?N ?hS ?hdS ?_; (case B => k_asm); (case F => k_asm); (case X => k_asm); (case T => k_asm); (case hdp => ((try simp only [depth_under_make, depth_under_kw, depth_in1, depth_deeper, depth_caller]); decide)); (case hun => ((try simp only [units_in1, units_deeper, Around.mark_units, units_caller]); decide)); (case N => k_asm); (case hS => k_memK); (case hdS => k_memK)); intro h' tk' tq F' N'; rw [hwz])
    k_with "stop" => first | (with_reducible show wpAny _ _ (exec (Stmt.If _ _ _ _) _) _ _ _)
    k_steps
    rename Fr _ _ _ _ => kF
    rename News _ _ _ _ => kN
    refine cut_if kF kN ?_ ?_
    · k_with "stop" => first | (with_reducible show wpAny _ _ (exec (Stmt.Return _ _) _) _ _ _) | (with_reducible show _ = _ ∧ _)
      walk1
      k_steps
      all_goals first | exact ⟨rfl, _, _, rfl, by assumption, by assumption⟩ | (exfalso; (rename _ ≠ _ => hx); exact hx rfl) | (exfalso; omega)
    clear kF kN
    intro h' tk' F' N'
    k_with_none
    --TURN
    k_with "call builtin:len" => (k_dflt (refine' len_ok ?N ?hm hlen ?hz ?_; (case N => k_asm); (case hm => k_memK); (case hz => omega)); intro _ _)
    k_with "call ref" => ((with_reducible show wpAny _ _ (call (Value.ref 209) _) _ _ _); k_dflt (refine' width_ok ?B ?F ?X ?T ?hdp ?hun ?N ?hW ?hdW ?hS ?hdS ?_; (case B => k_asm); (case F => k_asm); (case X => k_asm); (case T => k_asm); (case hdp => ((try simp only [depth_under_make, depth_under_kw, depth_in1, depth_deeper, depth_caller]); decide)); (case hun => ((try simp only [units_in1, units_deeper, Around.mark_units, units_caller]); decide)); (case N => k_asm); (case hW => k_memK); (case hdW => k_memK); (case hS => k_memK); (case hdS => k_memK)); intro h' tk' tq F' N'; rw [hwz])
    k_with "call ref" => ((with_reducible show wpAny _ _ (call (Value.ref 181) _) _ _ _); k_dflt (refine' swidth_ok ?B ?F ?X ?T ?hdp ?hun ?N ?hS ?hdS ?_; (case B => k_asm); (case F => k_asm); (case X => k_asm); (case T => k_asm); (case hdp => ((try simp only [depth_under_make, depth_under_kw, depth_in1, depth_deeper, depth_caller]); decide)); (case hun => ((try simp only [units_in1, units_deeper, Around.mark_units, units_caller]); decide)); (case N => k_asm); (case hS => k_memK); (case hdS => k_memK)); intro h' tk' tq F' N'; rw [hwz])
    k_with "stop" => first | (with_reducible show wpAny _ _ (exec (Stmt.If _ _ _ _) _) _ _ _)
    k_steps
    rename Fr _ _ _ _ => kF
    rename News _ _ _ _ => kN
    refine cut_if kF kN ?_ ?_
    · k_with "stop" => first | (with_reducible show wpAny _ _ (exec (Stmt.Return _ _) _) _ _ _) | (with_reducible show _ = _ ∧ _)
      walk1
      k_steps
      all_goals first | exact ⟨rfl, _, _, rfl, by assumption, by assumption⟩ | (exfalso; (rename _ ≠ _ => hx); exact hx rfl) | (exfalso; omega)
    clear kF kN
    intro h' tk' F' N'
    k_with_none
    --TURN
    k_with "call builtin:len" => (k_dflt (refine' len_ok ?N ?hm hlen ?hz ?_; (case N => k_asm); (case hm => k_memK); (case hz => omega)); intro _ _)
    k_with "call ref" => ((with_reducible show wpAny _ _ (call (Value.ref 209) _) _ _ _); k_dflt (refine' width_ok ?B ?F ?X ?T ?hdp ?hun ?N ?hW ?hdW ?hS ?hdS ?_; (case B => k_asm); (case F => k_asm); (case X => k_asm); (case T => k_asm); (case hdp => ((try simp only [depth_under_make, depth_under_kw, depth_in1, depth_deeper, depth_caller]); decide)); (case hun => ((try simp only [units_in1, units_deeper, Around.mark_units, units_caller]); decide)); (case N => k_asm); (case hW => k_memK); (case hdW => k_memK); (case hS => k_memK); (case hdS => k_memK)); intro h' tk' tq F' N'; rw [hwz])
    k_with "call ref" => ((with_reducible show wpAny _ _ (call (Value.ref 181) _) _ _ _); k_dflt (refine' swidth_ok ?B ?F ?X ?T ?hdp ?hun ?N ?hS ?hdS ?_; (case B => k_asm); (case F => k_asm); (case X => k_asm); (case T => k_asm); (case hdp => ((try simp only [depth_under_make, depth_under_kw, depth_in1, depth_deeper, depth_caller]); decide)); (case hun => ((try simp only [units_in1, units_deeper, Around.mark_units, units_caller]); decide)); (case N => k_asm); (case hS => k_memK); (case hdS => k_memK)); intro h' tk' tq F' N'; rw [hwz])
    k_with "stop" => first | (with_reducible show wpAny _ _ (exec (Stmt.If _ _ _ _) _) _ _ _)
    k_steps
    rename Fr _ _ _ _ => kF
    rename News _ _ _ _ => kN
    refine cut_if kF kN ?_ ?_
    · k_with "stop" => first | (with_reducible show wpAny _ _ (exec (Stmt.Return _ _) _) _ _ _) | (with_reducible show _ = _ ∧ _)
      walk1
      k_steps
      all_goals first | exact ⟨rfl, _, _, rfl, by assumption, by assumption⟩ | (exfalso; (rename _ ≠ _ => hx); exact hx rfl) | (exfalso; omega)
    clear kF kN
    intro h' tk' F' N'
    have hhdr : (2 : Int) ^ bits.toNat < c := by omega
    k_with_none
    k_with "stop" => first | (with_reducible show wpAny _ _ (exec (Stmt.Assign [Expr.Name (Str.ofString "code") _] _ _) _) _ _ _)
    k_steps
    k_with_none
    k_with "call ref" => ((with_reducible show wpAny _ _ (call (Value.ref 244) _) _ _ _); k_dflt (refine' draw_use ?B ?F ?X ?N ?T ?hk ?U ?hC ?hi hl60 hl61 ?hi0 ?hi1 ?hd0 ?hm ?hm2 ?hdp ?hun ?_; (case B => k_asm); (case F => k_asm); (case X => k_asm); (case N => k_asm); (case T => k_asm); (case hk => rfl); (case U => (intro o; k_upd)); (case hC => k_memK); (case hi => assumption); (case hi0 => omega); (case hi1 => omega); (case hd0 => omega); (case hm => omega); (case hm2 => omega); (case hdp => ((try simp only [depth_under_make, depth_under_kw, depth_in1, depth_deeper, depth_caller]); decide)); (case hun => ((try simp only [units_in1, units_deeper, Around.mark_units, units_caller]); decide))); intro h' tk' pi' pd' r tr ti' td' F' N' hr0 hr1 hpi0 hpi1 hpd)
    k_with "call builtin:len" => (k_dflt (refine' len_ok ?N ?hm hlen ?hz ?_; (case N => k_asm); (case hm => k_memK); (case hz => omega)); intro _ _)
    k_with "stop" => first | (with_reducible show _ = _ ∧ _)
    rename Fr _ _ _ _ => kF
    rename News _ _ _ _ => kN
    refine cut_code (fun x => 0 ≤ x ∧ x < c) kF kN ?_ ?_
    · k_steps
      all_goals (refine ⟨rfl, _, _, _, _, _, _, _, _, rfl, by assumption, by assumption, ?_, ?_, ?_, ?_⟩ <;> omega)
    clear kF kN
    intro h' tk' x0 tx0 pi1 pd1 ti1 td1 F' N' hx0 hpa hpb hpd1
    k_with_none
    k_with "stop" => first | (with_reducible show wpAny _ _ (exec (Stmt.Assign [Expr.Name (Str.ofString "code") _] _ _) _) _ _ _)
    k_steps
    k_with_none
    k_with "stop" => first | (with_reducible show _ = _ ∧ _)
    rename Fr _ _ _ _ => kF
    rename News _ _ _ _ => kN
    refine cut_code (fun x => 0 ≤ x ∧ x < c ∧ x ≠ 2 ^ bits.toNat + 1) kF kN ?_ ?_
    · k_steps
      all_goals (refine ⟨rfl, _, _, _, _, _, _, _, _, rfl, by assumption, by assumption, ?_, ?_, ?_, ?_⟩ <;> omega)
    clear kF kN
    intro h' tk' x tx pi2 pd2 ti2 td2 F' N' hx hpa2 hpb2 hpd2
    have hcv : cv.length < 100 := by
      rw [hci.length]; omega
    have hcv2 : cv.toArray.size < 100 := by rw [List.size_toArray]; exact hcv
    k_with_none
    k_with "call builtin:list.append" => (k_dflt (refine' append_K ?k1 ?k2 ?k3 ?_ ?z; (case k1 => k_asm); (case k2 => k_asm); (case k3 => k_upd); (case z => (rw [PySem.sizeLine_eq]; omega)); k_whole); intro h' F' N'; (try k_sweep))
    k_with "stop" => first | (with_reducible show wpAny _ _ (call (Value.ref 216) _) _ _ _)
    k_steps
    k_dflt (refine' passed_use ?B ?F ?X ?T ?hdp ?hun ?hb0 ?N ?U ?hW ?hS ?hdS ?_; (case B => k_asm); (case F => k_asm); (case X => k_asm); (case T => k_asm); (case hdp => ((try simp only [depth_under_make, depth_under_kw, depth_in1, depth_deeper, depth_caller]); decide)); (case hun => ((try simp only [units_in1, units_deeper, Around.mark_units, units_caller]); decide)); (case hb0 => exact b0); (case N => k_asm); (case hW => k_memK); (case U => (intro o'; k_upd)); (case hS => k_memK); (case hdS => k_memK))
    intro h' tk' tq cq gq F' N' hq
    have hok2 := lawOk_snoc hok b0 w0 (by omega) hr20 hx.1 hx.2.1 hx.2.2
    rw [hwz, ← show (cq, gq) = stepC bits widest c g x from hq] at hok2
    have hsc := step_cases hq
    k_with_none
    k_with "stop" => first | (with_reducible show wpAny _ _ (exec (Stmt.If _ _ _ _) _) _ _ _)
    k_steps
    have hslice : (2 : Int) ^ bits.toNat + 2 ≤ c := hc0
    k_with_none
    k_with "call builtin:len" => (k_dflt (refine' len_ok ?N ?hm hlen ?hz ?_; (case N => k_asm); (case hm => k_memK); (case hz => omega)); intro _ _)
    k_with "call builtin:list.append" => (k_dflt (refine' append_K ?k1 ?k2 ?k3 ?_ ?z; (case k1 => k_asm); (case k2 => k_asm); (case k3 => k_upd); (case z => (rw [PySem.sizeLine_eq]; omega)); k_whole); intro h' F' N'; (try k_sweep))
    k_with "exec Assign" => (exfalso; omega)
    k_with "exec If" => (exfalso; omega)
    k_with "exec Expr" => (exfalso; omega)
    k_with "exec Return" => (exfalso; omega)
    k_with "stop" => first | (with_reducible show TurnR _ _ _ _ _ _ _ _ _) | (with_reducible show wpAny _ _ (subscriptTail _ (PySem.Expr.Slice _ _ none _) (Value.ref _) (Value.ref _)) _ _ _)
    replace hok2 : LawOk bits widest r2 (cs ++ [x]) cq gq (TT + wz) := hok2
    have hlen2 : tv.length = c.toNat := by rw [List.size_toArray] at hlen; omega
    rcases hbf with ⟨rfl, rfl⟩ | ⟨rfl, bx, btx, rfl⟩ <;> rcases hsc with ⟨s1, s2, s3⟩ | ⟨s1, s2, s3, s4, s5⟩ | ⟨s1, s2, s3, s4⟩
    · subst s2 s3
      k_steps
      k_dflt (refine' slice_ok (tv := tv) ?F ?N ?l ?y ?z ?_ ?s ?t; (case F => k_asm); (case N => k_asm); (case l => k_memK); (case y => omega); (case z => (rw [List.size_toArray]; omega)); (case s => with_unfolding_all rfl); (case t => kmk_pure))
      intro TA2 h' F' N' lTA2
      k_steps
      rename Fr _ _ _ _ => kF
      rename News _ _ _ _ => kN
      (try simp only [List.push_toArray] at kN)
      have q1 := ltN (lTA2 _ (.tail _ (.tail _ (.head _))))
      have q2 := ltN (lTA2 _ (.tail _ (.tail _ (.tail _ (.tail _ (.head _))))))
      have q3 := ltN (lTA2 _ (.tail _ (.tail _ (.tail _ (.tail _ (.tail _ (.tail _ (.tail _ (.tail _ (.head _))))))))))
      dsimp only at q1 q2 q3
      refine ⟨_, _, _, _, rfl, kF, kst_newsOf kN ?kin, ne8 (Nat.ne_of_lt iP) (Nat.ne_of_lt idW) (Nat.ne_of_lt iLC) (Nat.ne_of_gt q3) (Nat.ne_of_lt iW) (Nat.ne_of_lt iS) (Nat.ne_of_lt idS) (Nat.ne_of_lt iC), pi2, pd2, ti2, td2, ?tt, TA2, tv.take (2 ^ bits.toNat + 2 : Int).toNat, 0, cv ++ [.int x tx], cs ++ [x], cn + 1, 2 ^ bits.toNat + 2, false, TT + wz, tq, .none, rfl, ?m, ?len, hok2, ints_push hci, ?a1, ?a2, ?a3, hpd2, .inl ⟨rfl, rfl⟩, q2, .inl q1⟩
      case kin => kst_inAny
      case m => kst_all
      case len => (simp only [List.size_toArray, List.length_take, List.length_append, List.length_cons, List.length_nil]; omega)
      case a1 => (simp only [List.length_append, List.length_cons, List.length_nil]; omega)
      case a2 => omega
      case a3 => omega
    · cases s2
    · replace s3 := s3.symm
      subst s3 s4
      k_steps
      rename Fr _ _ _ _ => kF
      rename News _ _ _ _ => kN
      (try simp only [List.push_toArray] at kN)
      refine ⟨_, _, _, _, rfl, kF, kst_newsOf kN ?kin, ne8 (Nat.ne_of_lt iP) (Nat.ne_of_lt idW) (Nat.ne_of_lt iLC) (iTA.elim (fun h => Nat.ne_of_lt h) (fun h => Nat.ne_of_gt h)) (Nat.ne_of_lt iW) (Nat.ne_of_lt iS) (Nat.ne_of_lt idS) (Nat.ne_of_lt iC), pi2, pd2, ti2, td2, ?tt, TA, tv, tn, cv ++ [.int x tx], cs ++ [x], cn + 1, c, true, TT + wz, tq, .int x tx, rfl, ?m, ?len, hok2, ints_push hci, ?a1, ?a2, ?a3, hpd2, .inr ⟨rfl, x, tx, rfl⟩, lTW, lTL⟩
      case kin => kst_inAny
      case m => kst_all
      case len => (simp only [List.size_toArray, List.length_take, List.length_append, List.length_cons, List.length_nil]; omega)
      case a1 => (simp only [List.length_append, List.length_cons, List.length_nil]; omega)
      case a2 => omega
      case a3 => omega
    · subst s2 s3
      k_steps
      k_dflt (refine' slice_ok (tv := tv) ?F ?N ?l ?y ?z ?_ ?s ?t; (case F => k_asm); (case N => k_asm); (case l => k_memK); (case y => omega); (case z => (rw [List.size_toArray]; omega)); (case s => with_unfolding_all rfl); (case t => kmk_pure))
      intro TA2 h' F' N' lTA2
      k_steps
      rename Fr _ _ _ _ => kF
      rename News _ _ _ _ => kN
      (try simp only [List.push_toArray] at kN)
      have q1 := ltN (lTA2 _ (.tail _ (.tail _ (.head _))))
      have q2 := ltN (lTA2 _ (.tail _ (.tail _ (.tail _ (.tail _ (.head _))))))
      have q3 := ltN (lTA2 _ (.tail _ (.tail _ (.tail _ (.tail _ (.tail _ (.tail _ (.tail _ (.tail _ (.head _))))))))))
      dsimp only at q1 q2 q3
      refine ⟨_, _, _, _, rfl, kF, kst_newsOf kN ?kin, ne8 (Nat.ne_of_lt iP) (Nat.ne_of_lt idW) (Nat.ne_of_lt iLC) (Nat.ne_of_gt q3) (Nat.ne_of_lt iW) (Nat.ne_of_lt iS) (Nat.ne_of_lt idS) (Nat.ne_of_lt iC), pi2, pd2, ti2, td2, ?tt, TA2, tv.take (2 ^ bits.toNat + 2 : Int).toNat, 0, cv ++ [.int x tx], cs ++ [x], cn + 1, 2 ^ bits.toNat + 2, false, TT + wz, tq, .none, rfl, ?m, ?len, hok2, ints_push hci, ?a1, ?a2, ?a3, hpd2, .inl ⟨rfl, rfl⟩, q2, .inl q1⟩
      case kin => kst_inAny
      case m => kst_all
      case len => (simp only [List.size_toArray, List.length_take, List.length_append, List.length_cons, List.length_nil]; omega)
      case a1 => (simp only [List.length_append, List.length_cons, List.length_nil]; omega)
      case a2 => omega
      case a3 => omega
    · subst s4 s5
      k_steps
      rename Fr _ _ _ _ => kF
      rename News _ _ _ _ => kN
      (try simp only [List.push_toArray] at kN)
      refine ⟨_, _, _, _, rfl, kF, kst_newsOf kN ?kin, ne8 (Nat.ne_of_lt iP) (Nat.ne_of_lt idW) (Nat.ne_of_lt iLC) (iTA.elim (fun h => Nat.ne_of_lt h) (fun h => Nat.ne_of_gt h)) (Nat.ne_of_lt iW) (Nat.ne_of_lt iS) (Nat.ne_of_lt idS) (Nat.ne_of_lt iC), pi2, pd2, ti2, td2, ?tt, TA, tv ++ [.ref ?tD], tn + 1, cv ++ [.int x tx], cs ++ [x], cn + 1, c + 1, true, TT + wz, tq, .int x tx, rfl, ?m, ?len, hok2, ints_push hci, ?a1, ?a2, ?a3, hpd2, .inr ⟨rfl, x, tx, rfl⟩, lTW, lTL⟩
      case kin => kst_inAny
      case m => kst_all
      case len => (simp only [List.size_toArray, List.length_take, List.length_append, List.length_cons, List.length_nil]; omega)
      case a1 => (simp only [List.length_append, List.length_cons, List.length_nil]; omega)
      case a2 => omega
      case a3 => omega
    · have s2' : 2 ^ widest.toNat ≤ c := s2.elim (fun h => by cases h) id
      replace s3 := s3.symm
      subst s3 s4
      k_steps
      rename Fr _ _ _ _ => kF
      rename News _ _ _ _ => kN
      (try simp only [List.push_toArray] at kN)
      refine ⟨_, _, _, _, rfl, kF, kst_newsOf kN ?kin, ne8 (Nat.ne_of_lt iP) (Nat.ne_of_lt idW) (Nat.ne_of_lt iLC) (iTA.elim (fun h => Nat.ne_of_lt h) (fun h => Nat.ne_of_gt h)) (Nat.ne_of_lt iW) (Nat.ne_of_lt iS) (Nat.ne_of_lt idS) (Nat.ne_of_lt iC), pi2, pd2, ti2, td2, ?tt, TA, tv, tn, cv ++ [.int x tx], cs ++ [x], cn + 1, c, true, TT + wz, tq, .int x tx, rfl, ?m, ?len, hok2, ints_push hci, ?a1, ?a2, ?a3, hpd2, .inr ⟨rfl, x, tx, rfl⟩, lTW, lTL⟩
      case kin => kst_inAny
      case m => kst_all
      case len => (simp only [List.size_toArray, List.length_take, List.length_append, List.length_cons, List.length_nil]; omega)
      case a1 => (simp only [List.length_append, List.length_cons, List.length_nil]; omega)
      case a2 => omega
      case a3 => omega
  case done =>
    clear F F11 N N11
    intro m₁ nx h tk hJ F N
    obtain ⟨pi, pd, ti, td, tt, TA, tv, tn, cv, cs, cn, c, g, TT, t, bf, rfl, hm, hlen, hok, hci, hcl, hp0, hp1, hd0, hbf, lTW, lTL⟩ := hJ
    have hmE : ∀ y, kstB m₁ _ y = m₁ y := fun y => kstB_eq hm (fun _ => rfl)
    replace F := fr_map F (m' := fun y => if y = Str.ofString "total" then some (.int TT tt) else if y = Str.ofString "codes" then some (.ref LC) else if y = Str.ofString "before" then some bf else if y = Str.ofString "table" then some (.ref TA) else if y = Str.ofString "follows" then some (.ref W) else if y = Str.ofString "sizes" then some (.ref S) else if y = Str.ofString "widest" then some (.int widest tw) else if y = Str.ofString "bits" then some (.int bits tb) else if y = Str.ofString "early" then some (.int r2 te) else if y = Str.ofString "pen" then some (.ref P) else m₁ y) (fun y => hmE y)
    have hok' := hok
    obtain ⟨-, hc0, hc1, -, -, hend⟩ := hok'
    obtain ⟨z1, z2, z3, z4, z5⟩ := wdZ_facts (e := r2) b0 w0 (show 1 ≤ c by omega) hc1 hr20
    obtain ⟨hT, hfits⟩ := lawOk_put (x := 2 ^ bits.toNat + 1) hok b0 w0 (by omega) hr20 (by omega) (by omega)
    have hcl2 : cs.length ≤ 31 := by omega
    have hcvl : cv.length ≤ 31 := by rw [hci.length]; exact hcl2
    clear hm hmE hp0 hp1 hd0 hbf hok
    generalize hwz : wdZ bits widest r2 c = wz at z1 z2 z3 z4 z5 hT
    k_with_none
    refine wpC_execs_cons (wpC_Assign_Name (wpC_Call_ ?_))
    k_fold
    k_steps
    refine wpC_callWith_K (by k_asm) (by k_is) ?_
    k_fold
    k_steps
    rename IntsAre _ (cs ++ _) => hws
    k_dflt (refine' write_ok ?B ?F ?X ?T ?hdp ?hun ?N ?hS ?hdS ?hCO hws ?hl b0 b1 w0 w1 hfits ?_; (case B => k_asm); (case F => k_asm); (case X => k_asm); (case T => k_asm); (case hdp => ((try simp only [depth_under_make, depth_under_kw, depth_in1, depth_deeper, depth_caller]); decide)); (case hun => ((try simp only [units_in1, units_deeper, Around.mark_units, units_caller]); decide)); (case N => k_asm); (case hS => k_memK); (case hdS => k_memK); (case hCO => k_memK); (case hl => (simp only [List.length_append, List.length_cons, List.length_nil]; omega)))
    intro h' tk' d td F' N' hD
    have hT64 := tbits_le _ hfits
    rw [wlist_len, List.length_append, List.length_cons, List.length_nil] at hT64
    obtain ⟨hz1, hz2⟩ := fin_size hD hT
    obtain ⟨q, hq⟩ := fin_left hD 122
    have hdz : d.size < 100 := by omega
    k_with_none
    (try k_fold)
    k_steps
    refine wpC_execs_cons (wpC.of ?_)
    k_with "call ref" => ((with_reducible show wpAny _ _ (call (Value.ref 209) _) _ _ _); k_dflt (refine' width_ok ?B ?F ?X ?T ?hdp ?hun ?N ?hW ?hdW ?hS ?hdS ?_; (case B => k_asm); (case F => k_asm); (case X => k_asm); (case T => k_asm); (case hdp => ((try simp only [depth_under_make, depth_under_kw, depth_in1, depth_deeper, depth_caller]); decide)); (case hun => ((try simp only [units_in1, units_deeper, Around.mark_units, units_caller]); decide)); (case N => k_asm); (case hW => k_memK); (case hdW => k_memK); (case hS => k_memK); (case hdS => k_memK)); intro h' tk' tq F' N'; rw [hwz])
    k_with "call ref" => ((with_reducible show wpAny _ _ (call (Value.ref 237) _) _ _ _); k_dflt (refine' read_ok ?B ?F ?X ?T ?hdp ?hun ?N ?hS ?hdS ?hl b0 b1 w0 w1 ?hz hend hq hfits ?_; (case B => k_asm); (case F => k_asm); (case X => k_asm); (case T => k_asm); (case hdp => ((try simp only [depth_under_make, depth_under_kw, depth_in1, depth_deeper, depth_caller]); decide)); (case hun => ((try simp only [units_in1, units_deeper, Around.mark_units, units_caller]); decide)); (case N => k_asm); (case hS => k_memK); (case hdS => k_memK); (case hl => omega); (case hz => (rw [Array.size_append]; show d.size + 1 < 1000; omega))); intro h' tk' RL rv rn F' N' lRL hrv)
    k_with "binaryOp Add bytes bytes" => (refine KBy.add_bytes (by simp only [List.size_toArray, Array.size_append, List.length_cons, List.length_nil, sizeLine_eq]; omega) ?_; intro _ _)
    k_with "stop" => (with_reducible show wpAny _ _ (exec (Stmt.Return _ _) _) _ _ _)
    k_fold
    k_steps
    all_goals first | ((with_reducible show wpAny _ _ (exec (Stmt.Return _ _) _) _ _ _); exfalso; (rename _ ≠ Int.fdiv _ _ => hx); exact hx (hz1.trans (Int.fdiv_eq_ediv_of_nonneg _ (by decide)).symm)) | skip
    k_with_none
    k_with "call builtin:len" => (k_dflt (refine' len_ok ?N ?hm hlen ?hz ?_; (case N => k_asm); (case hm => k_memK); (case hz => omega)); intro _ _)
    refine wpC_execs_cons (wpC.of ?_)
    k_fold
    (repeat' (first | (k_unfold; (try dsimp only)) | walk1 | (dsimp only; walk1) | (leave1; walk_say "STEP leave1"; try dsimp only)))
    k_end
    refine goodW_bool (by assumption) (by assumption) (fun cls => no_raise _ cls) ?_
    rw [beq_self_eq_true c]
    exact post_true _)

end Mine
theorem PySem.Challenge.cw_og0144_01_holds : PySem.Challenge.rw_og0144_01.Holds := by
  exact Mine.law_holds
