import PyProof.Rows.All
import Wide.All
import OpenK.AllK
import Wide.FinOn
import KE.BitLaws
import PyProof.Rows.BitMore
import KE.IntBitsLaws
import KE.KTryDeep
import KE.KTypeName
import PyProof.InstStoreFacts
import KE.KSortAsk
import KE.KSortTup
import PyProof.Rows.SortShell
import PySem.Challenge.RW_nn0066_01
open PySem PySem.W PyProof.Rows PySem.Calls
set_option Elab.async false
set_option genSizeOf false
set_option genSizeOfSpec false
set_option genInjectivity false
set_option bootstrap.genMatcherCode false
set_option maxRecDepth 100000
set_option maxHeartbeats 4000000
namespace Mine
theorem ft {P:Prop} (h:false = true):P:=Bool.noConfusion h
theorem an {a b:Bool} (h:(a && b) = true):a = true /\ b = true:=Bool.and_eq_true_iff.mp h
theorem nd {a b:Bool} (h:a = true) (k:b = true):(a && b) = true:=Bool.and_eq_true_iff.mpr ⟨h,k⟩
theorem nse {α:Type} {a:α} {P:Prop} (h:(none:Option α) = some a):P:=by cases h
theorem tf {P:Prop} (h:true = false):P:=Bool.noConfusion h
theorem nes {α:Type} {a:α} {P:Prop} (h:some a = (none:Option α)):P:=by cases h
theorem m256 (x:Int):0 <= x % 256 /\ x % 256 < 256:=⟨Int.emod_nonneg _ (by decide),Int.emod_lt_of_pos _ (by decide)⟩
theorem nab {x:Int} {n:Nat} (h0:0 <= x) (h1:x < n):x.natAbs < n:=Int.ofNat_lt.mp (by rw [Int.natAbs_of_nonneg h0]; exact h1)
theorem subt {n i:Nat} (h:i < n):n + 1 - (i + 1) < n + 1 - i:=Nat.sub_succ_lt_self _ _ (Nat.lt_succ_of_lt h)
theorem bt {b:Int} (h:b = 32 ∨ b = 64 ∨ b = 128):b = 8 * ((b / 8).toNat:Int) /\ ((b / 8).toNat = 4 ∨ (b / 8).toNat = 8 ∨ (b / 8).toNat = 16) /\ (((b / 8).toNat:Int) = b / 8) /\ (b.toNat = 8 * (b / 8).toNat /\ b.toNat / 8 = (b / 8).toNat) /\ (b / 8).toNat <= 16:=by
  rcases h with rfl | rfl | rfl <;> decide
theorem modm {w m:Int} (h:8192 <= w /\ w <= 12288) (k:-16 <= m /\ m <= 1000):((m + w % 2 ^ 64) % 2 ^ 64 + 0) % 2 ^ 64 = w + m:=by
  have h1:w % 2 ^ 64 = w:=Int.emod_eq_of_lt (Int.le_trans (by decide) h.1) (Int.lt_of_le_of_lt h.2 (by decide))
  have h2:(w + m) % 2 ^ 64 = w + m:=Int.emod_eq_of_lt (Int.le_trans (by decide:(0:Int) <= 8192 + -16) (Int.add_le_add h.1 k.1)) (Int.lt_of_le_of_lt (Int.add_le_add h.2 k.2) (by decide))
  rw [h1,Int.add_comm m w,h2,Int.add_zero,h2]
theorem n16 (x:Int):(x % 16).toNat < 16 /\ ((x % 16).toNat:Int) = x % 16:=
  have h1:=Int.emod_nonneg x (b:=16) (by decide)
  ⟨(Int.toNat_lt h1).mpr (Int.emod_lt_of_pos x (b:=16) (by decide)),Int.toNat_of_nonneg h1⟩
theorem ar_a {sa na sb k nb n z:Nat} (g3:sa + na = sb) (hk:¬ na - k = 0) (g5:1 <= nb) (g6:sb + nb <= n) (hn:n <= z):sa + k < sb /\ sa + k < z /\ sa + k + (na - k) - 1 < z:=
  have h0:k < na:=Nat.lt_of_sub_ne_zero hk
  have h1:sa + k < sb:=g3 ▸ Nat.add_lt_add_left h0 sa
  have h2:sb < z:=Nat.lt_of_lt_of_le (Nat.lt_add_of_pos_right g5) (Nat.le_trans g6 hn)
  ⟨h1,Nat.lt_trans h1 h2,Nat.lt_of_le_of_lt (Nat.sub_le _ _) (by rw [Nat.add_assoc,Nat.add_sub_cancel' (Nat.le_of_lt h0),g3]; exact h2)⟩
theorem ar_b {lo n r nrem z:Nat} (h:n + (r + 1) <= nrem) (h2:lo + nrem <= z):lo + n - 1 < z /\ lo + n < z:=
  have h3:lo + n < z:=Nat.lt_of_lt_of_le (Nat.add_lt_add_left (Nat.lt_of_lt_of_le (Nat.lt_add_of_pos_right (Nat.succ_pos r)) h) lo) h2
  ⟨Nat.lt_of_le_of_lt (Nat.sub_le _ _) h3,h3⟩
theorem ar_c {k ia z:Nat} (h:ia + 1 < z) (hk:k <= z - ia) (q:¬ ia + k = z):ia + k < z:=
  Nat.lt_of_le_of_ne (Nat.add_comm k ia ▸ Nat.add_le_of_le_sub (Nat.le_of_lt (Nat.lt_of_succ_lt h)) hk) q
theorem e0a1 {A B:Prop} {P:Prop} (h:A /\ B) (k:A -> B -> P):P:=by
  obtain ⟨h0,h1⟩:=h
  exact k h0 h1
theorem e0a2 {A B C:Prop} {P:Prop} (h:A /\ B /\ C) (k:A -> B -> C -> P):P:=by
  obtain ⟨h0,h1,h2⟩:=h
  exact k h0 h1 h2
theorem e0a3 {A B C D:Prop} {P:Prop} (h:A /\ B /\ C /\ D) (k:A -> B -> C -> D -> P):P:=by
  obtain ⟨h0,h1,h2,h3⟩:=h
  exact k h0 h1 h2 h3
theorem e0a4 {A B C D E:Prop} {P:Prop} (h:A /\ B /\ C /\ D /\ E) (k:A -> B -> C -> D -> E -> P):P:=by
  obtain ⟨h0,h1,h2,h3,h4⟩:=h
  exact k h0 h1 h2 h3 h4
theorem e0a6 {A B C D E F G:Prop} {P:Prop} (h:A /\ B /\ C /\ D /\ E /\ F /\ G) (k:A -> B -> C -> D -> E -> F -> G -> P):P:=by
  obtain ⟨h0,h1,h2,h3,h4,h5,h6⟩:=h
  exact k h0 h1 h2 h3 h4 h5 h6
theorem e1a0 {α0:Sort _} {A:α0 -> Prop} {P:Prop} (h:∃ x0,A x0) (k:∀ x0,A x0 -> P):P:=by
  obtain ⟨x0,h0⟩:=h
  exact k x0 h0
theorem e1a1 {α0:Sort _} {A B:α0 -> Prop} {P:Prop} (h:∃ x0,A x0 /\ B x0) (k:∀ x0,A x0 -> B x0 -> P):P:=by
  obtain ⟨x0,h0,h1⟩:=h
  exact k x0 h0 h1
theorem e1a2 {α0:Sort _} {A B C:α0 -> Prop} {P:Prop} (h:∃ x0,A x0 /\ B x0 /\ C x0) (k:∀ x0,A x0 -> B x0 -> C x0 -> P):P:=by
  obtain ⟨x0,h0,h1,h2⟩:=h
  exact k x0 h0 h1 h2
theorem e1a3 {α0:Sort _} {A B C D:α0 -> Prop} {P:Prop} (h:∃ x0,A x0 /\ B x0 /\ C x0 /\ D x0) (k:∀ x0,A x0 -> B x0 -> C x0 -> D x0 -> P):P:=by
  obtain ⟨x0,h0,h1,h2,h3⟩:=h
  exact k x0 h0 h1 h2 h3
theorem e1a4 {α0:Sort _} {A B C D E:α0 -> Prop} {P:Prop} (h:∃ x0,A x0 /\ B x0 /\ C x0 /\ D x0 /\ E x0) (k:∀ x0,A x0 -> B x0 -> C x0 -> D x0 -> E x0 -> P):P:=by
  obtain ⟨x0,h0,h1,h2,h3,h4⟩:=h
  exact k x0 h0 h1 h2 h3 h4
theorem e2a0 {α0:Sort _} {α1:Sort _} {A:α0 -> α1 -> Prop} {P:Prop} (h:∃ x0 x1,A x0 x1) (k:∀ x0 x1,A x0 x1 -> P):P:=by
  obtain ⟨x0,x1,h0⟩:=h
  exact k x0 x1 h0
theorem e2a1 {α0:Sort _} {α1:Sort _} {A B:α0 -> α1 -> Prop} {P:Prop} (h:∃ x0 x1,A x0 x1 /\ B x0 x1) (k:∀ x0 x1,A x0 x1 -> B x0 x1 -> P):P:=by
  obtain ⟨x0,x1,h0,h1⟩:=h
  exact k x0 x1 h0 h1
theorem e2a2 {α0:Sort _} {α1:Sort _} {A B C:α0 -> α1 -> Prop} {P:Prop} (h:∃ x0 x1,A x0 x1 /\ B x0 x1 /\ C x0 x1) (k:∀ x0 x1,A x0 x1 -> B x0 x1 -> C x0 x1 -> P):P:=by
  obtain ⟨x0,x1,h0,h1,h2⟩:=h
  exact k x0 x1 h0 h1 h2
theorem e2a3 {α0:Sort _} {α1:Sort _} {A B C D:α0 -> α1 -> Prop} {P:Prop} (h:∃ x0 x1,A x0 x1 /\ B x0 x1 /\ C x0 x1 /\ D x0 x1) (k:∀ x0 x1,A x0 x1 -> B x0 x1 -> C x0 x1 -> D x0 x1 -> P):P:=by
  obtain ⟨x0,x1,h0,h1,h2,h3⟩:=h
  exact k x0 x1 h0 h1 h2 h3
theorem e2a4 {α0:Sort _} {α1:Sort _} {A B C D E:α0 -> α1 -> Prop} {P:Prop} (h:∃ x0 x1,A x0 x1 /\ B x0 x1 /\ C x0 x1 /\ D x0 x1 /\ E x0 x1) (k:∀ x0 x1,A x0 x1 -> B x0 x1 -> C x0 x1 -> D x0 x1 -> E x0 x1 -> P):P:=by
  obtain ⟨x0,x1,h0,h1,h2,h3,h4⟩:=h
  exact k x0 x1 h0 h1 h2 h3 h4
theorem e3a0 {α0:Sort _} {α1:Sort _} {α2:Sort _} {A:α0 -> α1 -> α2 -> Prop} {P:Prop} (h:∃ x0 x1 x2,A x0 x1 x2) (k:∀ x0 x1 x2,A x0 x1 x2 -> P):P:=by
  obtain ⟨x0,x1,x2,h0⟩:=h
  exact k x0 x1 x2 h0
theorem e3a1 {α0:Sort _} {α1:Sort _} {α2:Sort _} {A B:α0 -> α1 -> α2 -> Prop} {P:Prop} (h:∃ x0 x1 x2,A x0 x1 x2 /\ B x0 x1 x2) (k:∀ x0 x1 x2,A x0 x1 x2 -> B x0 x1 x2 -> P):P:=by
  obtain ⟨x0,x1,x2,h0,h1⟩:=h
  exact k x0 x1 x2 h0 h1
theorem e3a2 {α0:Sort _} {α1:Sort _} {α2:Sort _} {A B C:α0 -> α1 -> α2 -> Prop} {P:Prop} (h:∃ x0 x1 x2,A x0 x1 x2 /\ B x0 x1 x2 /\ C x0 x1 x2) (k:∀ x0 x1 x2,A x0 x1 x2 -> B x0 x1 x2 -> C x0 x1 x2 -> P):P:=by
  obtain ⟨x0,x1,x2,h0,h1,h2⟩:=h
  exact k x0 x1 x2 h0 h1 h2
theorem e3a3 {α0:Sort _} {α1:Sort _} {α2:Sort _} {A B C D:α0 -> α1 -> α2 -> Prop} {P:Prop} (h:∃ x0 x1 x2,A x0 x1 x2 /\ B x0 x1 x2 /\ C x0 x1 x2 /\ D x0 x1 x2) (k:∀ x0 x1 x2,A x0 x1 x2 -> B x0 x1 x2 -> C x0 x1 x2 -> D x0 x1 x2 -> P):P:=by
  obtain ⟨x0,x1,x2,h0,h1,h2,h3⟩:=h
  exact k x0 x1 x2 h0 h1 h2 h3
theorem e3a4 {α0:Sort _} {α1:Sort _} {α2:Sort _} {A B C D E:α0 -> α1 -> α2 -> Prop} {P:Prop} (h:∃ x0 x1 x2,A x0 x1 x2 /\ B x0 x1 x2 /\ C x0 x1 x2 /\ D x0 x1 x2 /\ E x0 x1 x2) (k:∀ x0 x1 x2,A x0 x1 x2 -> B x0 x1 x2 -> C x0 x1 x2 -> D x0 x1 x2 -> E x0 x1 x2 -> P):P:=by
  obtain ⟨x0,x1,x2,h0,h1,h2,h3,h4⟩:=h
  exact k x0 x1 x2 h0 h1 h2 h3 h4
theorem e3a5 {α0:Sort _} {α1:Sort _} {α2:Sort _} {A B C D E F:α0 -> α1 -> α2 -> Prop} {P:Prop} (h:∃ x0 x1 x2,A x0 x1 x2 /\ B x0 x1 x2 /\ C x0 x1 x2 /\ D x0 x1 x2 /\ E x0 x1 x2 /\ F x0 x1 x2) (k:∀ x0 x1 x2,A x0 x1 x2 -> B x0 x1 x2 -> C x0 x1 x2 -> D x0 x1 x2 -> E x0 x1 x2 -> F x0 x1 x2 -> P):P:=by
  obtain ⟨x0,x1,x2,h0,h1,h2,h3,h4,h5⟩:=h
  exact k x0 x1 x2 h0 h1 h2 h3 h4 h5
theorem e4a0 {α0:Sort _} {α1:Sort _} {α2:Sort _} {α3:Sort _} {A:α0 -> α1 -> α2 -> α3 -> Prop} {P:Prop} (h:∃ x0 x1 x2 x3,A x0 x1 x2 x3) (k:∀ x0 x1 x2 x3,A x0 x1 x2 x3 -> P):P:=by
  obtain ⟨x0,x1,x2,x3,h0⟩:=h
  exact k x0 x1 x2 x3 h0
theorem e4a3 {α0:Sort _} {α1:Sort _} {α2:Sort _} {α3:Sort _} {A B C D:α0 -> α1 -> α2 -> α3 -> Prop} {P:Prop} (h:∃ x0 x1 x2 x3,A x0 x1 x2 x3 /\ B x0 x1 x2 x3 /\ C x0 x1 x2 x3 /\ D x0 x1 x2 x3) (k:∀ x0 x1 x2 x3,A x0 x1 x2 x3 -> B x0 x1 x2 x3 -> C x0 x1 x2 x3 -> D x0 x1 x2 x3 -> P):P:=by
  obtain ⟨x0,x1,x2,x3,h0,h1,h2,h3⟩:=h
  exact k x0 x1 x2 x3 h0 h1 h2 h3
theorem e4a4 {α0:Sort _} {α1:Sort _} {α2:Sort _} {α3:Sort _} {A B C D E:α0 -> α1 -> α2 -> α3 -> Prop} {P:Prop} (h:∃ x0 x1 x2 x3,A x0 x1 x2 x3 /\ B x0 x1 x2 x3 /\ C x0 x1 x2 x3 /\ D x0 x1 x2 x3 /\ E x0 x1 x2 x3) (k:∀ x0 x1 x2 x3,A x0 x1 x2 x3 -> B x0 x1 x2 x3 -> C x0 x1 x2 x3 -> D x0 x1 x2 x3 -> E x0 x1 x2 x3 -> P):P:=by
  obtain ⟨x0,x1,x2,x3,h0,h1,h2,h3,h4⟩:=h
  exact k x0 x1 x2 x3 h0 h1 h2 h3 h4
theorem e5a0 {α0:Sort _} {α1:Sort _} {α2:Sort _} {α3:Sort _} {α4:Sort _} {A:α0 -> α1 -> α2 -> α3 -> α4 -> Prop} {P:Prop} (h:∃ x0 x1 x2 x3 x4,A x0 x1 x2 x3 x4) (k:∀ x0 x1 x2 x3 x4,A x0 x1 x2 x3 x4 -> P):P:=by
  obtain ⟨x0,x1,x2,x3,x4,h0⟩:=h
  exact k x0 x1 x2 x3 x4 h0
theorem e5a3 {α0:Sort _} {α1:Sort _} {α2:Sort _} {α3:Sort _} {α4:Sort _} {A B C D:α0 -> α1 -> α2 -> α3 -> α4 -> Prop} {P:Prop} (h:∃ x0 x1 x2 x3 x4,A x0 x1 x2 x3 x4 /\ B x0 x1 x2 x3 x4 /\ C x0 x1 x2 x3 x4 /\ D x0 x1 x2 x3 x4) (k:∀ x0 x1 x2 x3 x4,A x0 x1 x2 x3 x4 -> B x0 x1 x2 x3 x4 -> C x0 x1 x2 x3 x4 -> D x0 x1 x2 x3 x4 -> P):P:=by
  obtain ⟨x0,x1,x2,x3,x4,h0,h1,h2,h3⟩:=h
  exact k x0 x1 x2 x3 x4 h0 h1 h2 h3
theorem e6a0 {α0:Sort _} {α1:Sort _} {α2:Sort _} {α3:Sort _} {α4:Sort _} {α5:Sort _} {A:α0 -> α1 -> α2 -> α3 -> α4 -> α5 -> Prop} {P:Prop} (h:∃ x0 x1 x2 x3 x4 x5,A x0 x1 x2 x3 x4 x5) (k:∀ x0 x1 x2 x3 x4 x5,A x0 x1 x2 x3 x4 x5 -> P):P:=by
  obtain ⟨x0,x1,x2,x3,x4,x5,h0⟩:=h
  exact k x0 x1 x2 x3 x4 x5 h0
theorem e6a1 {α0:Sort _} {α1:Sort _} {α2:Sort _} {α3:Sort _} {α4:Sort _} {α5:Sort _} {A B:α0 -> α1 -> α2 -> α3 -> α4 -> α5 -> Prop} {P:Prop} (h:∃ x0 x1 x2 x3 x4 x5,A x0 x1 x2 x3 x4 x5 /\ B x0 x1 x2 x3 x4 x5) (k:∀ x0 x1 x2 x3 x4 x5,A x0 x1 x2 x3 x4 x5 -> B x0 x1 x2 x3 x4 x5 -> P):P:=by
  obtain ⟨x0,x1,x2,x3,x4,x5,h0,h1⟩:=h
  exact k x0 x1 x2 x3 x4 x5 h0 h1
theorem e7a1 {α0:Sort _} {α1:Sort _} {α2:Sort _} {α3:Sort _} {α4:Sort _} {α5:Sort _} {α6:Sort _} {A B:α0 -> α1 -> α2 -> α3 -> α4 -> α5 -> α6 -> Prop} {P:Prop} (h:∃ x0 x1 x2 x3 x4 x5 x6,A x0 x1 x2 x3 x4 x5 x6 /\ B x0 x1 x2 x3 x4 x5 x6) (k:∀ x0 x1 x2 x3 x4 x5 x6,A x0 x1 x2 x3 x4 x5 x6 -> B x0 x1 x2 x3 x4 x5 x6 -> P):P:=by
  obtain ⟨x0,x1,x2,x3,x4,x5,x6,h0,h1⟩:=h
  exact k x0 x1 x2 x3 x4 x5 x6 h0 h1
section
open PySem PyProof.Rows
theorem Ze8 (w:Int) (n:Nat):Builtin.bitAnd w (1 * 2 ^ n - 1) = w % 2 ^ n:=by
  have hp:(0:Int) < 2 ^ n:=Int.pow_pos (by decide)
  have hy:(0:Int) <= 1 * 2 ^ n - 1:=by lia
  have ey:(1 * 2 ^ n - 1:Int).toNat = 2 ^ n - 1:=by
    have:((2 ^ n:Nat):Int) = 2 ^ n:=by simp
    lia
  have ec:((2 ^ n:Nat):Int) = 2 ^ n:=by simp
  by_cases h:0 <= w
  . rw [bitAnd_pp h hy,ey,Nat.and_two_pow_sub_one_eq_mod]
    rw [Int.natCast_emod,ec,Int.toNat_of_nonneg h]
  . rw [bitAnd_np h hy,ey,Nat.and_comm,Nat.and_two_pow_sub_one_eq_mod]
    have h2:0 <= Builtin.bitNot w:=by simp [Builtin.bitNot]; lia
    rw [Int.natCast_emod,ec,Int.toNat_of_nonneg h2]
    have e2:Builtin.bitNot w = -w - 1:=by simp [Builtin.bitNot]
    rw [e2]
    have h3:=Int.emod_nonneg (-w - 1) (Int.ne_of_gt hp)
    have h4:=Int.emod_lt_of_pos (-w - 1) hp
    have h5:=Int.emod_add_mul_ediv (-w - 1) (2 ^ n)
    have h6:w = (2 ^ n - 1 - (-w - 1) % 2 ^ n) + 2 ^ n * (- ((-w - 1) / 2 ^ n) - 1):=by
      rw [Int.mul_sub,Int.mul_neg]; lia
    have h7:w % 2 ^ n = (2 ^ n - 1 - (-w - 1) % 2 ^ n):=by
      conv=>lhs; rw [h6]
      rw [Int.add_mul_emod_self_left]
      exact Int.emod_eq_of_lt (by lia) (by lia)
    lia
end
section
theorem lapp {α:Type} {H X:List α} {j:Nat} (h:Nat.ble (j + 1) X.length = true):H.length + j < (H ++ X).length:=by
  rw [List.length_append]; exact Nat.add_lt_add_left (Nat.le_of_ble_eq_true h) _
inductive PV where
  | none
  | bool (b:Bool)
  | int (i:Int)
  | str (s:Str)
  | ref (i:Nat)
  | con (v:Value)
  | tup (xs:List PV)
  | lst (xs:List PV)
  | obj (C:Addr) (es:List (Str × PV))
  | slc (l u s:PV)
  | rng (a b c:Int)
  | any
inductive AObj where
  | list (xs:List PV)
  | dict (es:List (Int × PV))
  | inst (C:Addr) (d:Nat)
  | attrs (es:List (Str × PV))
  | cell (v:Option PV)
  | dead
  | raw (o:Obj)
  | ns (es:List (Str × PV))
  | fix (a:AObj) (o:Obj)
  | zO (k:Nat)
  | zT
  | zi (xs:List PV)
noncomputable def AObj.isD:AObj -> Bool
  | .dict _=>true
  | .fix a _=>a.isD
  | _=>false
structure Wd where
  φ:List Addr
  Z:List (Addr × Obj)
noncomputable abbrev tupO (vs:List Value) (n:Nat):Obj:={ cls:=.type "tuple", data:=.seq vs.toArray n }
noncomputable abbrev lstO (vs:List Value) (n:Nat):Obj:={ cls:=.type "list", data:=.seq vs.toArray n }
mutual
inductive VRel (W:Wd):PV -> Value -> Prop
  | none:VRel W .none .none
  | bool (b:Bool):VRel W (.bool b) (.bool b)
  | int (i:Int) (t:Tok):VRel W (.int i) (.int i t)
  | str (s:Str) (t:Tok):VRel W (.str s) (.str s t)
  | ref {i:Nat} {a:Addr}:W.φ[i]? = some a -> VRel W (.ref i) (.ref a)
  | con (v:Value):VRel W (.con v) v
  | tup {xs:List PV} {vs:List Value} {a:Addr} {n:Nat} {o:Obj}:(a,o) ∈ W.Z → o.cls = .type "tuple" → o.data = .seq vs.toArray n → VRels W xs vs → VRel W (.tup xs) (.ref a)
  | lst {xs:List PV} {vs:List Value} {a:Addr} {n:Nat}:(a,((lstO vs n):Obj)) ∈ W.Z -> VRels W xs vs -> VRel W (.lst xs) (.ref a)
  | obj {C a dx:Addr} {es:List (Str × PV)} {ds:List DictEntry} {n:Nat}:(a,((instObj C dx):Obj)) ∈ W.Z -> (dx,((dictOf ds n):Obj)) ∈ W.Z -> ARel W es ds -> VRel W (.obj C es) (.ref a)
  | slc {l u s:PV} {lv uv sv:Value} {a:Addr}:(a,({ cls:=.type "slice", data:=.fields #[lv,uv,sv] }:Obj)) ∈ W.Z → VRel W l lv → VRel W u uv → VRel W s sv → VRel W (.slc l u s) (.ref a)
  | rng {x y z:Int} {t u v:Tok} {a:Addr}:(a,({ cls:=.type "range", data:=.fields #[.int x t,.int y u,.int z v] }:Obj)) ∈ W.Z → VRel W (.rng x y z) (.ref a)
  | any (v:Value):VRel W .any v
inductive VRels (W:Wd):List PV -> List Value -> Prop
  | nil:VRels W [] []
  | cons {p:PV} {v:Value} {ps:List PV} {vs:List Value}:VRel W p v -> VRels W ps vs -> VRels W (p :: ps) (v :: vs)
inductive ARel (W:Wd):List (Str × PV) -> List DictEntry -> Prop
  | nil:ARel W [] []
  | cons {x:Str} {p:PV} {h:Int} {t:Tok} {v:Value} {es:List (Str × PV)} {ds:List DictEntry}:VRel W p v -> ARel W es ds -> ARel W ((x,p) :: es) (⟨h,.str x t,v⟩ :: ds)
end
inductive DRel (W:Wd):List (Int × PV) -> List (Int × Value) -> Prop
  | nil:DRel W [] []
  | cons {k:Int} {p:PV} {v:Value} {es:List (Int × PV)} {ds:List (Int × Value)}:VRel W p v -> DRel W es ds -> DRel W ((k,p) :: es) ((k,v) :: ds)
noncomputable def IntDict (o:Obj) (kvs:List (Int × Value)):Prop:=∀ prog w,o.IsDictOf (intKind prog w) kvs
inductive LRel (W:Wd):List (Str × PV) -> List (Str × Value) -> Prop
  | nil:LRel W [] []
  | cons {x:Str} {p:PV} {v:Value} {ps:List (Str × PV)} {vs:List (Str × Value)}:VRel W p v -> LRel W ps vs -> LRel W ((x,p) :: ps) ((x,v) :: vs)
inductive ORel (W:Wd):AObj -> Obj -> Prop
  | list {xs:List PV} {vs:List Value} {n:Nat}:VRels W xs vs -> ORel W (.list xs) (lstO vs n)
  | dict {es:List (Int × PV)} {ds:List (Int × Value)} {o:Obj}:IntDict o ds -> DRel W es ds -> ORel W (.dict es) o
  | inst {C:Addr} {d:Nat} {dx:Addr}:W.φ[d]? = some dx -> ORel W (.inst C d) (instObj C dx)
  | attrs {es:List (Str × PV)} {ds:List DictEntry} {n:Nat}:ARel W es ds -> ORel W (.attrs es) (dictOf ds n)
  | cellN {o:Obj}:o.data = .cell Option.none -> ORel W (.cell Option.none) o
  | cell {o:Obj} {p:PV} {v:Value}:o.data = .cell (some v) -> VRel W p v -> ORel W (.cell (some p)) o
  | dead {o:Obj}:ORel W .dead o
  | raw (o:Obj):ORel W (.raw o) o
  | ns {o:Obj} {m:Str -> Option Value} {es:List (Str × PV)} {vs:List (Str × Value)}:LCg.NsObj o m -> LRel W es vs -> (∀ x v,vs.lookup x = some v -> m x = some v) -> ORel W (.ns es) o
  | fix {a:AObj} {o:Obj}:ORel W a o -> ORel W (.fix a o) o
  | zO {k:Nat} {TI TO i1 i2:Addr}:W.φ[k]? = some TO → W.φ[k + 1]? = some i1 → W.φ[k + 2]? = some i2 → (TI,({ cls:=.type "tuple", data:=.seq #[.ref i1,.ref i2] }:Obj)) ∈ W.Z → ORel W (.zO k) { cls:=.type "zip", dict:=none,data:=.fields #[.none,.bool false,.bool false,.ref TI,.ref TO],slots:=#[] }
  | zT {a b:Value}:ORel W .zT { cls:=.type "tuple", data:=.seq #[a,b] }
  | zi {xs:List PV} {vs:List Value} {l:Addr} {n:Nat} {o:Obj}:(l,((lstO vs n):Obj)) ∈ W.Z → VRels W xs vs → o.cls = .type "list_iterator" → o.data = .fields #[.ref l,.int 0 0] → ORel W (.zi xs) o
structure Wd.le (W W':Wd):Prop where
  φ:∀ (i:Nat) a,W.φ[i]? = some a -> W'.φ[i]? = some a
  Z:∀ p,p ∈ W.Z -> p ∈ W'.Z
theorem Wd.le.refl (W:Wd):W.le W:=⟨fun _ _ e=>e,fun _ e=>e⟩
theorem Wd.le.trans {A B C:Wd} (x:A.le B) (y:B.le C):A.le C:=⟨fun i a e=>y.φ i a (x.φ i a e),fun p e=>y.Z p (x.Z p e)⟩
section
variable {W:Wd} {P1:PV -> Value -> Prop} {P2:List PV -> List Value -> Prop} {P3:List (Str × PV) -> List DictEntry -> Prop}
theorem VRel.ind3 (c1:P1 .none .none) (c2:∀ b,P1 (.bool b) (.bool b)) (c3:∀ i t,P1 (.int i) (.int i t)) (c4:∀ i t,P1 (.str i) (.str i t)) (c5:∀ {i:Nat} {a:Addr},W.φ[i]? = some a -> P1 (.ref i) (.ref a)) (c6:∀ v,P1 (.con v) v)
    (c7:∀ {xs:List PV} {vs:List Value} {a:Addr} {n:Nat} {o:Obj},(a,o) ∈ W.Z → o.cls = .type "tuple" → o.data = .seq vs.toArray n → VRels W xs vs → P2 xs vs → P1 (.tup xs) (.ref a))
    (c8:∀ {xs:List PV} {vs:List Value} {a:Addr} {n:Nat},(a,((lstO vs n):Obj)) ∈ W.Z -> VRels W xs vs -> P2 xs vs -> P1 (.lst xs) (.ref a))
    (c9:∀ {C a dx:Addr} {es:List (Str × PV)} {ds:List DictEntry} {n:Nat},(a,((instObj C dx):Obj)) ∈ W.Z -> (dx,((dictOf ds n):Obj)) ∈ W.Z -> ARel W es ds -> P3 es ds -> P1 (.obj C es) (.ref a))
    (c10:∀ {l u s:PV} {lv uv sv:Value} {a:Addr},(a,({ cls:=.type "slice", data:=.fields #[lv,uv,sv] }:Obj)) ∈ W.Z → VRel W l lv → VRel W u uv → VRel W s sv → P1 l lv → P1 u uv → P1 s sv → P1 (.slc l u s) (.ref a))
    (c11:∀ {x y z:Int} {t u v:Tok} {a:Addr},(a,({ cls:=.type "range", data:=.fields #[.int x t,.int y u,.int z v] }:Obj)) ∈ W.Z → P1 (.rng x y z) (.ref a)) (c12:∀ v,P1 .any v)
    (d1:P2 [] []) (d2:∀ {p:PV} {v:Value} {ps:List PV} {vs:List Value},VRel W p v -> VRels W ps vs -> P1 p v -> P2 ps vs -> P2 (p :: ps) (v :: vs))
    (e1:P3 [] []) (e2:∀ {x:Str} {p:PV} {h:Int} {t:Tok} {v:Value} {es:List (Str × PV)} {ds:List DictEntry},VRel W p v -> ARel W es ds -> P1 p v -> P3 es ds -> P3 ((x,p) :: es) (⟨h,.str x t,v⟩ :: ds)) :
    (∀ {p v},VRel W p v -> P1 p v) /\ (∀ {ps vs},VRels W ps vs -> P2 ps vs) /\ (∀ {es ds},ARel W es ds -> P3 es ds):=
  ⟨fun h=>VRel.rec (motive_1:=fun p v _=>P1 p v) (motive_2:=fun p v _=>P2 p v) (motive_3:=fun p v _=>P3 p v) c1 c2 c3 c4 c5 c6 c7 c8 c9 c10 c11 c12 d1 d2 e1 e2 h,
   fun h=>VRels.rec (motive_1:=fun p v _=>P1 p v) (motive_2:=fun p v _=>P2 p v) (motive_3:=fun p v _=>P3 p v) c1 c2 c3 c4 c5 c6 c7 c8 c9 c10 c11 c12 d1 d2 e1 e2 h,
   fun h=>ARel.rec (motive_1:=fun p v _=>P1 p v) (motive_2:=fun p v _=>P2 p v) (motive_3:=fun p v _=>P3 p v) c1 c2 c3 c4 c5 c6 c7 c8 c9 c10 c11 c12 d1 d2 e1 e2 h⟩
theorem VRel.ind0 (d1:P2 [] []) (d2:∀ {p:PV} {v:Value} {ps:List PV} {vs:List Value},VRel W p v -> VRels W ps vs -> P2 ps vs -> P2 (p :: ps) (v :: vs))
    (e1:P3 [] []) (e2:∀ {x:Str} {p:PV} {h:Int} {t:Tok} {v:Value} {es:List (Str × PV)} {ds:List DictEntry},VRel W p v -> ARel W es ds -> P3 es ds -> P3 ((x,p) :: es) (⟨h,.str x t,v⟩ :: ds)) :
    (∀ {ps vs},VRels W ps vs -> P2 ps vs) /\ (∀ {es ds},ARel W es ds -> P3 es ds):=
  (VRel.ind3 (P1:=fun _ _=>True) trivial (fun _=>trivial) (fun _ _=>trivial) (fun _ _=>trivial) (fun _=>trivial) (fun _=>trivial) (fun _ _ _ _ _=>trivial) (fun _ _ _=>trivial) (fun _ _ _ _=>trivial) (fun _ _ _ _ _ _ _=>trivial) (fun _=>trivial) (fun _=>trivial) d1 (fun a r _=>d2 a r) e1 (fun a r _=>e2 a r)).2
theorem VRels.ind {ps:List PV} {vs:List Value} (h:VRels W ps vs) (d1:P2 [] []) (d2:∀ (p:PV) (v:Value) (ps:List PV) (vs:List Value),VRel W p v -> VRels W ps vs -> P2 ps vs -> P2 (p :: ps) (v :: vs)):P2 ps vs:=
  (VRel.ind0 (P3:=fun _ _=>True) d1 (fun a r=>d2 _ _ _ _ a r) trivial (fun _ _ _=>trivial)).1 h
theorem ARel.ind {es:List (Str × PV)} {ds:List DictEntry} (h:ARel W es ds) (e1:P3 [] []) (e2:∀ (x:Str) (p:PV) (h:Int) (t:Tok) (v:Value) (es:List (Str × PV)) (ds:List DictEntry),VRel W p v -> ARel W es ds -> P3 es ds -> P3 ((x,p) :: es) (⟨h,.str x t,v⟩ :: ds)):P3 es ds:=
  (VRel.ind0 (P2:=fun _ _=>True) trivial (fun _ _ _=>trivial) e1 (fun a r=>e2 _ _ _ _ _ _ _ a r)).2 h
end
section
variable {W W':Wd} (l:W.le W')
include l
theorem Zlg:(∀ {p v},VRel W p v -> VRel W' p v) /\ (∀ {ps vs},VRels W ps vs -> VRels W' ps vs) /\ (∀ {es ds},ARel W es ds -> ARel W' es ds):=
  VRel.ind3 .none .bool .int .str (fun e=>.ref (l.φ _ _ e)) .con (fun z c d _ r=>.tup (l.Z _ z) c d r) (fun z _ r=>.lst (l.Z _ z) r) (fun z z' _ r=>.obj (l.Z _ z) (l.Z _ z') r) (fun z _ _ _ a b c=>.slc (l.Z _ z) a b c) (fun z=>.rng (l.Z _ z)) .any .nil (fun _ _ a r=>.cons a r) .nil (fun _ _ a r=>.cons a r)
theorem VRel.mono {p:PV} {v:Value} (h:VRel W p v):VRel W' p v:=(Zlg l).1 h
theorem VRels.mono {p:List PV} {v:List Value} (h:VRels W p v):VRels W' p v:=(Zlg l).2.1 h
theorem ARel.mono {p:List (Str × PV)} {v:List DictEntry} (h:ARel W p v):ARel W' p v:=(Zlg l).2.2 h
theorem DRel.mono {p:List (Int × PV)} {v:List (Int × Value)} (h:DRel W p v):DRel W' p v:=by
  induction h with
  | nil=>exact .nil
  | cons a _ ih=>exact .cons (VRel.mono l a) ih
theorem LRel.mono {p:List (Str × PV)} {v:List (Str × Value)} (h:LRel W p v):LRel W' p v:=by
  induction h with
  | nil=>exact .nil
  | cons a _ ih=>exact .cons (VRel.mono l a) ih
theorem ORel.mono {p:AObj} {o:Obj} (h:ORel W p o):ORel W' p o:=by
  induction h with
  | list r=>exact .list (VRels.mono l r)
  | dict d r=>exact .dict d (DRel.mono l r)
  | inst e=>exact .inst (l.φ _ _ e)
  | attrs r=>exact .attrs (ARel.mono l r)
  | cellN e=>exact .cellN e
  | cell e r=>exact .cell e (VRel.mono l r)
  | dead=>exact .dead
  | raw o=>exact .raw o
  | ns a r e=>exact .ns a (LRel.mono l r) e
  | fix _ ih=>exact .fix ih
  | zO a b c d=>exact .zO (l.φ _ _ a) (l.φ _ _ b) (l.φ _ _ c) (l.Z _ d)
  | zT=>exact .zT
  | zi z r c d=>exact .zi (l.Z _ z) (VRels.mono l r) c d
end
theorem VRels.length {W:Wd} {p:List PV} {v:List Value} (h:VRels W p v):p.length = v.length:=
  h.ind (P2:=fun p v=>p.length = v.length) rfl fun _ _ _ _ _ _ ih=>congrArg (· + 1) ih
theorem VRels.get {W:Wd} {p:List PV} {v:List Value} (h:VRels W p v):∀ {i:Nat} {x:PV},p[i]? = some x -> ∃ y,v[i]? = some y /\ VRel W x y:=
  h.ind (P2:=fun p v=>∀ {i:Nat} {x:PV},p[i]? = some x -> ∃ y,v[i]? = some y /\ VRel W x y) (fun e=>by simp at e) fun p v ps vs a r ih i x e=>by
    cases i with
    | zero=>simp at e; subst e; exact ⟨_,rfl,a⟩
    | succ i=>simp at e; simpa using ih e
theorem VRels.append {W:Wd} {p q:List PV} {v u:List Value} (h:VRels W p v) (h':VRels W q u):VRels W (p ++ q) (v ++ u):=
  h.ind (P2:=fun p v=>VRels W (p ++ q) (v ++ u)) h' fun _ _ _ _ a _ ih=>.cons a ih
theorem VRels.set {W:Wd} {x:PV} {y:Value} (hx:VRel W x y) {p:List PV} {v:List Value} (h:VRels W p v):∀ (i:Nat),VRels W (p.set i x) (v.set i y):=
  h.ind (P2:=fun p v=>∀ i:Nat,VRels W (p.set i x) (v.set i y)) (fun _=>.nil) fun _ _ _ _ a r ih i=>by
    cases i with
    | zero=>exact .cons hx r
    | succ i=>exact .cons a (ih i)
theorem VRels.take {W:Wd} {p:List PV} {v:List Value} (h:VRels W p v):∀ (i:Nat),VRels W (p.take i) (v.take i):=
  h.ind (P2:=fun p v=>∀ i:Nat,VRels W (p.take i) (v.take i)) (fun i=>by simp; exact .nil) fun _ _ _ _ a _ ih i=>by
    cases i with
    | zero=>exact .nil
    | succ i=>exact .cons a (ih i)
theorem VRels.drop {W:Wd} {p:List PV} {v:List Value} (h:VRels W p v):∀ (i:Nat),VRels W (p.drop i) (v.drop i):=
  h.ind (P2:=fun p v=>∀ i:Nat,VRels W (p.drop i) (v.drop i)) (fun i=>by simp; exact .nil) fun _ _ _ _ a r ih i=>by
    cases i with
    | zero=>exact .cons a r
    | succ i=>exact ih i
noncomputable def lk (x:Str):List (Str × PV) -> Option PV
  | []=>Option.none
  | (y,v) :: r=>if x = y then some v else lk x r
noncomputable def lkN (x:Str):List (Str × Nat) -> Option Nat
  | []=>Option.none
  | (y,v) :: r=>if x = y then some v else lkN x r
theorem lk_n {x:Str}:lk x [] = none:=rfl
theorem lk_c {x y:Str} {v:PV} {r:List (Str × PV)}:lk x ((y,v) :: r) = if x = y then some v else lk x r:=rfl
theorem Znj {x:Str}:lkN x [] = none:=rfl
theorem ZeQ {x y:Str} {v:Nat} {r:List (Str × Nat)}:lkN x ((y,v) :: r) = if x = y then some v else lkN x r:=rfl
theorem LRel.append {W:Wd} {p q:List (Str × PV)} {v u:List (Str × Value)} (h:LRel W p v) (h':LRel W q u):LRel W (p ++ q) (v ++ u):=by
  induction h with
  | nil=>exact h'
  | cons a _ ih=>exact .cons a ih
theorem LRel.reverse {W:Wd} {p:List (Str × PV)} {v:List (Str × Value)} (h:LRel W p v):LRel W p.reverse v.reverse:=by
  induction h with
  | nil=>exact .nil
  | cons a _ ih=>simp only [List.reverse_cons]; exact LRel.append ih (.cons a .nil)
theorem LRel.lookup {W:Wd} {p:List (Str × PV)} {v:List (Str × Value)} (h:LRel W p v) {x:Str} {u:PV} (e:lk x p = some u):∃ u',v.lookup x = some u' /\ VRel W u u':=by
  induction h with
  | nil=>exact nse e
  | @cons y _ _ _ _ a r ih=>
    rw [lk_c] at e
    rw [List.lookup_cons]
    by_cases q:x = y
    . rw [if_pos q] at e; obtain rfl:=Option.some.inj e
      subst q; simp only [beq_self_eq_true]; exact ⟨_,rfl,a⟩
    . rw [if_neg q] at e
      have:(x == y) = false:=beq_eq_false_iff_ne.mpr q
      simp only [this]; exact ih e
theorem LRel.zip {W:Wd} {ps:List PV} {vs:List Value} (h:VRels W ps vs):∀ (ns:List Str),LRel W (ns.zip ps) (ns.zip vs):=
  h.ind (P2:=fun ps vs=>∀ ns:List Str,LRel W (ns.zip ps) (ns.zip vs)) (fun ns=>by simp; exact .nil) fun _ _ _ _ a _ ih ns=>by
    cases ns with
    | nil=>exact .nil
    | cons n ns=>simp only [List.zip_cons_cons]; exact .cons a (ih ns)
noncomputable def stl (x:Str) (v:PV):List (Str × PV) -> List (Str × PV)
  | []=>[(x,v)]
  | (y,u) :: r=>if x = y then (y,v) :: r else (y,u) :: stl x v r
theorem Zm6 {x:Str} {v:PV}:stl x v [] = [(x,v)]:=rfl
theorem ZgX {x y:Str} {v u:PV} {r:List (Str × PV)}:stl x v ((y,u) :: r) = if x = y then (y,v) :: r else (y,u) :: stl x v r:=rfl
theorem Zkq (x:Str) (v:PV) (y:Str) (l:List (Str × PV)):lk y (stl x v l) = if y = x then some v else lk y l:=by
  induction l with
  | nil=>rfl
  | cons p r ih=>
    obtain ⟨z,u⟩:=p
    rw [ZgX]
    by_cases h:x = z
    . subst h
      rw [if_pos rfl,lk_c,lk_c]
      by_cases q:y = x
      . rw [if_pos q,if_pos q]
      . rw [if_neg q,if_neg q,if_neg q]
    . rw [if_neg h,lk_c,lk_c,ih]
      by_cases q:y = z
      . rw [if_pos q,if_pos q,if_neg fun e=>h (e.symm.trans q)]
      . rw [if_neg q,if_neg q]
structure St where
  loc:List (Str × PV)
  cm:List (Str × Nat)
  H:List AObj
  ci:Option Nat:=none
  cc:List (Str × Nat):=[]
structure Fd where
  b:Heap
  base:Heap
  L:Addr
  cl:List (Str × Addr)
  outer:List Env
  A₀:Around
  hd:Option Value
  dp:Nat
  un:Nat
  gd:Option (List Code)
  C:Addr:=0
  ccl:List (Str × Addr):=[]
structure RelF (fd:Fd) (W:Wd) (σ:St) (h:Heap):Prop where
  fr:∃ m,Fr fd.b fd.L h m /\ ∀ x v,lk x σ.loc = some v -> ∃ v',m x = some v' /\ VRel W v v'
  len:W.φ.length = σ.H.length
  nd:W.φ.Nodup
  obj:∀ (i:Nat) a o,W.φ[i]? = some a -> σ.H[i]? = some o -> ∃ o',h.get? a = some o' /\ a ≠ fd.L /\ fd.b.get? a = none /\ ORel W o o'
  frz:∀ p,p ∈ W.Z -> h.get? p.1 = some p.2 /\ p.1 ≠ fd.L /\ fd.b.get? p.1 = none /\ ∀ i:Nat,W.φ[i]? = some p.1 -> σ.H[i]? = some .dead
  cel:∀ x i,lkN x σ.cm = some i -> ∃ a,fd.cl.lookup x = some a /\ W.φ[i]? = some a
  cen:∀ i,σ.ci = some i -> W.φ[i]? = some fd.C
  cec:∀ x i,lkN x σ.cc = some i -> ∃ a,fd.ccl.lookup x = some a /\ W.φ[i]? = some a
  dn:∀ (i:Nat) a o,W.φ[i]? = some a -> σ.H[i]? = some o -> o.isD = true -> a ≠ sysModules
section
variable {fd:Fd} {W:Wd} {σ:St} {h:Heap}
theorem RelF.at (R:RelF fd W σ h) {i:Nat} {o:AObj} (e:σ.H[i]? = some o):∃ a o',W.φ[i]? = some a /\ h.get? a = some o' /\ a ≠ fd.L /\ fd.b.get? a = none /\ ORel W o o':=by
  have hi:i < W.φ.length:=by rw [R.len]; exact (List.getElem?_eq_some_iff.mp e).1
  have ha:W.φ[i]? = some W.φ[i]:=List.getElem?_eq_getElem hi
  refine e1a3 (R.obj i _ o ha e) fun o' h1 h2 h3 h4=>?_
  exact ⟨_,o',ha,h1,h2,h3,h4⟩
theorem RelF.lt (R:RelF fd W σ h) {a:Addr} (ha:a ∈ W.φ):a < h.objs.size:=by
  refine e1a0 (List.mem_iff_getElem?.mp ha) fun i hi=>?_
  have hl:i < σ.H.length:=by rw [<- R.len]; exact (List.getElem?_eq_some_iff.mp hi).1
  refine e1a1 (R.obj i a _ hi (List.getElem?_eq_getElem hl)) fun o' h1 _=>?_
  exact Heap.lt_size h1
theorem RelF.frL (R:RelF fd W σ h):fd.L < h.objs.size:=by
  refine e1a1 R.fr fun m F _=>?_
  exact F.ns.lt
theorem RelF.bnew (R:RelF fd W σ h):fd.b.get? h.objs.size = none:=by
  refine e1a1 R.fr fun m F _=>?_
  cases q:fd.b.get? h.objs.size with
  | none=>rfl
  | some x=>exact absurd (Heap.lt_size (F.keep _ _ q)) (Nat.lt_irrefl _)
noncomputable def Wd.push (W:Wd) (a:Addr):Wd:={ W with φ:=W.φ ++ [a] }
noncomputable def Wd.frz (W:Wd) (a:Addr) (o:Obj):Wd:={ W with Z:=(a,o) :: W.Z }
theorem Wd.le_push (W:Wd) (a:Addr):W.le (W.push a):=
  ⟨fun i x e=>by
    show (W.φ ++ [a])[i]? = some x
    rw [List.getElem?_append_left (List.getElem?_eq_some_iff.mp e).1]; exact e,fun _ e=>e⟩
theorem Wd.push_at (W:Wd) (a:Addr) {n:Nat} (hn:n = W.φ.length):(W.push a).φ[n]? = some a:=by
  subst hn; show (W.φ ++ [a])[W.φ.length]? = some a; simp
theorem Wd.le_frz (W:Wd) (a:Addr) (o:Obj):W.le (W.frz a o):=⟨fun _ _ e=>e,fun _ e=>.tail _ e⟩
theorem Wd.frz_at (W:Wd) (a:Addr) (o:Obj):(a,o) ∈ (W.frz a o).Z:=.head _
noncomputable def ZbN (φ:List Addr) (h:Heap):List (Addr × Obj):=φ.map fun a=>(a,(h.get? a).getD default)
theorem Zge (φ:List Addr) (h:Heap):(ZbN φ h).map (·.1) = φ:=by
  unfold ZbN
  rw [List.map_map]
  exact List.map_id'' (fun _=>rfl) φ
noncomputable def Wd.led (W:Wd) (h:Heap):List (Addr × Obj):=ZbN W.φ h ++ W.Z
noncomputable def Wd.adr (W:Wd):List Addr:=W.φ ++ W.Z.map (·.1)
theorem Wd.led_map (W:Wd) (h:Heap):(W.led h).map (·.1) = W.adr:=by
  unfold Wd.led Wd.adr; rw [List.map_append,Zge]
theorem RelF.news (R:RelF fd W σ h):News fd.b fd.L h (W.led h):=by
  intro p hp
  rcases List.mem_append.mp hp with hp | hp
  . refine e1a1 (List.mem_map.mp hp) fun a ha hqa=>?_; subst hqa
    refine e1a0 (List.mem_iff_getElem?.mp ha) fun i hi=>?_
    have hl:i < σ.H.length:=by rw [<- R.len]; exact (List.getElem?_eq_some_iff.mp hi).1
    refine e1a3 (R.obj i a _ hi (List.getElem?_eq_getElem hl)) fun o' h1 h2 h3 _=>?_
    exact ⟨by simp [h1],h2,h3⟩
  . refine e0a3 (R.frz p hp) fun h1 h2 h3 _=>?_
    exact ⟨h1,h2,h3⟩
theorem ZcW {φ:List Addr} {h:Heap} {i:Nat} {a:Addr} {o:Obj} (e:φ[i]? = some a) (ho:h.get? a = some o):(a,o) ∈ ZbN φ h:=
  List.mem_map.mpr ⟨a,List.mem_of_getElem? e,by simp [ho]⟩
theorem RelF.carry (R:RelF fd W σ h) {fd':Fd} {loc':List (Str × PV)} {cm':List (Str × Nat)} {ci':Option Nat} {cc':List (Str × Nat)} {h':Heap} {m':Str -> Option Value}
    (F:Fr fd'.b fd'.L h' m') (lc:∀ x v,lk x loc' = some v -> ∃ v',m' x = some v' /\ VRel W v v') (N:News fd'.b fd'.L h' (W.led h))
    (hc:∀ x i,lkN x cm' = some i -> ∃ a,fd'.cl.lookup x = some a /\ W.φ[i]? = some a) (hn:∀ i,ci' = some i -> W.φ[i]? = some fd'.C) (hcc:∀ x i,lkN x cc' = some i -> ∃ a,fd'.ccl.lookup x = some a /\ W.φ[i]? = some a):RelF fd' W ⟨loc',cm',σ.H,ci',cc'⟩ h':=by
  refine ⟨⟨m',F,lc⟩,R.len,R.nd,fun i a o e1 e2=>?_,fun p e=>?_,hc,hn,hcc,R.dn⟩
  . refine e1a3 (R.obj i a o e1 e2) fun o' h1 _ _ h4=>?_
    have:=N (a,o') (List.mem_append_left _ (ZcW e1 h1))
    exact ⟨o',this.1,this.2.1,this.2.2,h4⟩
  . refine e0a3 (R.frz p e) fun _ _ _ h3=>?_
    have:=N p (List.mem_append_right _ e)
    exact ⟨this.1,this.2.1,this.2.2,h3⟩
theorem RelF.grow (R:RelF fd W σ h) {h':Heap} (F:∀ m,Fr fd.b fd.L h m -> Fr fd.b fd.L h' m) (N:News fd.b fd.L h' (W.led h)):RelF fd W σ h':=by
  refine e1a1 R.fr fun m F₀ lc=>?_
  exact R.carry (fd':=fd) (F m F₀) lc N R.cel R.cen R.cec
theorem RelF.push (R:RelF fd W σ h) (o':Obj):RelF fd W σ (h.push o'):=
  R.grow (fun _ F=>F.push _) fun p hp=>⟨Heap.get?_push_of_some _ (R.news p hp).1,(R.news p hp).2⟩
theorem RelF.mono (R:RelF fd W σ h) {W':Wd} (l:W.le W') (hφ:W'.φ = W.φ) (hz:∀ p,p ∈ W'.Z -> p ∈ W.Z ∨ (h.get? p.1 = some p.2 /\ p.1 ≠ fd.L /\ fd.b.get? p.1 = none /\ ∀ i:Nat,W.φ[i]? = some p.1 -> σ.H[i]? = some .dead)):RelF fd W' σ h:=by
  refine e1a1 R.fr fun m F lc=>?_
  refine ⟨⟨m,F,fun x v e=>?_⟩,by rw [hφ]; exact R.len,by rw [hφ]; exact R.nd,fun i a o e1 e2=>?_,fun p e=>?_,fun x i e=>?_,fun i e=>by rw [hφ]; exact R.cen i e,fun x i e=>by rw [hφ]; exact R.cec x i e,fun i a o e=>by rw [hφ] at e; exact R.dn i a o e⟩
  . refine e1a1 (lc x v e) fun v' h1 h2=>?_; exact ⟨v',h1,VRel.mono l h2⟩
  . rw [hφ] at e1
    refine e1a3 (R.obj i a o e1 e2) fun o' h1 h2 h3 h4=>?_
    exact ⟨o',h1,h2,h3,ORel.mono l h4⟩
  . rw [hφ]
    rcases hz p e with q | q
    . exact R.frz p q
    . exact q
  . rw [hφ]; exact R.cel x i e
theorem RelF.own (R:RelF fd W σ h) {a:Addr} {o:AObj} {o':Obj} (ha:h.get? a = some o') (hL:a ≠ fd.L) (hb:fd.b.get? a = none) (hn:a ∉ W.adr) (ho:ORel W o o') (hdn:o.isD = true -> a ≠ sysModules:=by intro e; exact ft e) :
    RelF fd (W.push a) { σ with H:=σ.H ++ [o] } h:=by
  have l:=Wd.le_push W a
  refine e1a1 R.fr fun m F lc=>?_
  have nφ:a ∉ W.φ:=fun q=>hn (List.mem_append_left _ q)
  have split:∀ {i:Nat} {c:Addr},(W.φ ++ [a])[i]? = some c -> (W.φ[i]? = some c /\ i < σ.H.length) ∨ (i = W.φ.length /\ c = a):=fun {i c} e1=>by
    by_cases q:i < W.φ.length
    . rw [List.getElem?_append_left q] at e1; exact .inl ⟨e1,R.len ▸ q⟩
    . have hi:i = W.φ.length:=by
        have:=(List.getElem?_eq_some_iff.mp e1).1
        simp at this; lia
      subst hi
      simp at e1; exact .inr ⟨rfl,e1.symm⟩
  refine ⟨⟨m,F,fun x v e=>?_⟩,?_,?_,?_,?_,?_,fun i e=>l.φ _ _ (R.cen i e),fun x i e=>by refine e1a1 (R.cec x i e) fun c h1 h2=>?_; exact ⟨c,h1,l.φ _ _ h2⟩,?_⟩
  rotate_left 6
  . intro i c ob e1 e2 q
    have e2:(σ.H ++ [o])[i]? = some ob:=e2
    rcases split e1 with ⟨e1,q'⟩ | ⟨rfl,rfl⟩
    . rw [List.getElem?_append_left q'] at e2
      exact R.dn i c ob e1 e2 q
    . rw [R.len] at e2; simp at e2; subst e2
      exact hdn q
  . refine e1a1 (lc x v e) fun v' h1 h2=>?_; exact ⟨v',h1,VRel.mono l h2⟩
  . show (W.φ ++ [_]).length = (σ.H ++ [_]).length; simp [R.len]
  . show (W.φ ++ [a]).Nodup
    rw [List.nodup_append]
    refine ⟨R.nd,by simp,fun c hc d hd e=>?_⟩
    simp at hd; subst hd; subst e; exact nφ hc
  . intro i c ob e1 e2
    have e2:(σ.H ++ [o])[i]? = some ob:=e2
    rcases split e1 with ⟨e1,q⟩ | ⟨rfl,rfl⟩
    . rw [List.getElem?_append_left q] at e2
      refine e1a3 (R.obj i c ob e1 e2) fun o₂ h1 h2 h3 h4=>?_
      exact ⟨o₂,h1,h2,h3,ORel.mono l h4⟩
    . rw [R.len] at e2; simp at e2; subst e2
      exact ⟨o',ha,hL,hb,ORel.mono l ho⟩
  . intro p e
    refine e0a3 (R.frz p e) fun h1 h2 h3 h4=>?_
    refine ⟨h1,h2,h3,fun i e1=>?_⟩
    show (σ.H ++ [o])[i]? = some .dead
    rcases split e1 with ⟨e1,q⟩ | ⟨_,e2⟩
    . rw [List.getElem?_append_left q]; exact h4 i e1
    . exact absurd (List.mem_append_right _ (List.mem_map.mpr ⟨p,e,e2⟩)) hn
  . intro x i e
    refine e1a1 (R.cel x i e) fun c h1 h2=>?_
    exact ⟨c,h1,l.φ _ _ h2⟩
theorem RelF.adr_lt (R:RelF fd W σ h) {a:Addr} (ha:a ∈ W.adr):a < h.objs.size:=by
  rcases List.mem_append.mp ha with q | q
  . exact R.lt q
  . refine e1a1 (List.mem_map.mp q) fun p hp hqa=>?_; subst hqa
    exact Heap.lt_size (R.frz p hp).1
theorem RelF.alloc (R:RelF fd W σ h) {o:AObj} {o':Obj} (ho:ORel W o o') (hf:o'.isFreed = false) (hdn:o.isD = true -> h.objs.size ≠ sysModules:=by intro e; exact ft e) :
    RelF fd (W.push h.objs.size) { σ with H:=σ.H ++ [o] } (h.push o'):=
  (R.push o').own (Heap.get?_push_size _ hf) (Nat.ne_of_gt R.frL) R.bnew (fun q=>Nat.lt_irrefl _ (R.adr_lt q)) ho hdn
theorem RelF.ice (R:RelF fd W σ h) {a:Addr} {o':Obj} (ha:h.get? a = some o') (hL:a ≠ fd.L) (hb:fd.b.get? a = none) (hn:∀ i:Nat,W.φ[i]? = some a -> σ.H[i]? = some .dead):RelF fd (W.frz a o') σ h:=
  R.mono (Wd.le_frz W a o') rfl fun p hp=>by
    rcases List.mem_cons.mp hp with rfl | hp
    . exact .inr ⟨ha,hL,hb,hn⟩
    . exact .inl hp
theorem RelF.fresh (R:RelF fd W σ h) {o':Obj} (hf:o'.isFreed = false):RelF fd (W.frz h.objs.size o') σ (h.push o'):=
  (R.push o').ice (Heap.get?_push_size _ hf) (Nat.ne_of_gt R.frL) R.bnew fun i e=>absurd (R.lt (List.mem_of_getElem? e)) (Nat.lt_irrefl _)
theorem Fr.sameBut {m:Str -> Option Value} {h':Heap} {a:Addr} (F:Fr fd.b fd.L h m) (hs:Heap.SameBut a h h') (hL:a ≠ fd.L) (hb:fd.b.get? a = none):Fr fd.b fd.L h' m:=
  ⟨F.ns.sameBut hs (Ne.symm hL),fun c o e=>(hs.2 c (fun q=>by rw [q,hb] at e; exact nse e)).trans (F.keep c o e),F.above⟩
theorem Zk9 (R:RelF fd W σ h) {i:Nat} {a:Addr} {o₀ o:AObj} (hi:W.φ[i]? = some a) (h0:σ.H[i]? = some o₀) (hk:o.isD = true -> o₀.isD = true) :
    ∀ (j:Nat) c ob,W.φ[j]? = some c -> (σ.H.set i o)[j]? = some ob -> ob.isD = true -> c ≠ sysModules:=fun j c ob e1 e2 q=>by
  have il:i < σ.H.length:=(List.getElem?_eq_some_iff.mp h0).1
  by_cases e:i = j
  . subst e
    rw [List.getElem?_set_self il] at e2; obtain rfl:=Option.some.inj e2
    rw [hi] at e1; obtain rfl:=Option.some.inj e1
    exact R.dn i a o₀ hi h0 (hk q)
  . rw [List.getElem?_set_ne e] at e2
    exact R.dn j c ob e1 e2 q
theorem RelF.update (R:RelF fd W σ h) {i:Nat} {a:Addr} {o₀ o:AObj} {o':Obj} {h':Heap} (hi:W.φ[i]? = some a) (h0:σ.H[i]? = some o₀) (hd:o₀ ≠ .dead)
    (hs:Heap.SameBut a h h') (ho':h'.get? a = some o') (ho:ORel W o o') (hk:o.isD = true -> o₀.isD = true:=by intro e; exact ft e):RelF fd W { σ with H:=σ.H.set i o } h':=by
  refine e1a1 R.fr fun m F lc=>?_
  refine e1a3 (R.obj i a o₀ hi h0) fun _ _ aL ab _=>?_
  have il:i < σ.H.length:=(List.getElem?_eq_some_iff.mp h0).1
  refine ⟨⟨m,Fr.sameBut F hs aL ab,lc⟩,?_,R.nd,fun j c ob e1 e2=>?_,fun p e=>?_,R.cel,R.cen,R.cec,Zk9 R hi h0 hk⟩
  . show W.φ.length = (σ.H.set i o).length; rw [List.length_set]; exact R.len
  . have e2:(σ.H.set i o)[j]? = some ob:=e2
    by_cases q:i = j
    . subst q
      rw [hi] at e1; obtain rfl:=Option.some.inj e1
      rw [List.getElem?_set_self il] at e2; obtain rfl:=Option.some.inj e2
      exact ⟨o',ho',aL,ab,ho⟩
    . rw [List.getElem?_set_ne q] at e2
      refine e1a3 (R.obj j c ob e1 e2) fun o₂ h1 h2 h3 h4=>?_
      have hc:c ≠ a:=fun e=>q (by
        subst e
        have hil:i < W.φ.length:=(List.getElem?_eq_some_iff.mp hi).1
        exact (List.getElem?_inj hil R.nd).mp (hi.trans e1.symm))
      exact ⟨o₂,(hs.2 c hc).trans h1,h2,h3,h4⟩
  . refine e0a3 (R.frz p e) fun h1 h2 h3 h4=>?_
    have hc:p.1 ≠ a:=fun q=>by
      have:=h4 i (by rw [q]; exact hi)
      rw [h0] at this; obtain rfl:=Option.some.inj this; exact hd rfl
    refine ⟨(hs.2 _ hc).trans h1,h2,h3,fun j e1=>?_⟩
    show (σ.H.set i o)[j]? = some .dead
    have:=h4 j e1
    by_cases q:i = j
    . subst q; rw [hi] at e1; obtain rfl:=Option.some.inj e1; exact absurd rfl hc
    . rw [List.getElem?_set_ne q]; exact this
theorem RelF.setLoc (R:RelF fd W σ h) {x:Str} {p:PV} {v:Value} {h':Heap} (hv:VRel W p v)
    (k:∀ m,Fr fd.b fd.L h m -> Fr fd.b fd.L h' (fun y=>if y = x then some v else m y)) (hs:Heap.SameBut fd.L h h'):RelF fd W { σ with loc:=stl x p σ.loc } h':=by
  refine e1a1 R.fr fun m F lc=>?_
  refine R.carry (fd':=fd) (k m F) (fun y u e=>?_) (R.news.set hs) R.cel R.cen R.cec
  rw [Zkq] at e
  by_cases q:y = x
  . rw [if_pos q] at e; obtain rfl:=Option.some.inj e
    exact ⟨v,by simp [q],hv⟩
  . rw [if_neg q] at e
    refine e1a1 (lc y u e) fun v' h1 h2=>?_
    exact ⟨v',by simp [q,h1],h2⟩
theorem RelF.freeze (R:RelF fd W σ h) {i:Nat} {a:Addr} {o':Obj} (hi:W.φ[i]? = some a) (ho:h.get? a = some o'):W.le (W.frz a o') /\ RelF fd (W.frz a o') { σ with H:=σ.H.set i .dead } h:=by
  have il:i < σ.H.length:=by rw [<- R.len]; exact (List.getElem?_eq_some_iff.mp hi).1
  refine e1a3 (R.obj i a _ hi (List.getElem?_eq_getElem il)) fun _ _ aL ab _=>?_
  have inj:∀ {j:Nat},W.φ[j]? = some a -> j = i:=fun {j} e=>((List.getElem?_inj (List.getElem?_eq_some_iff.mp hi).1 R.nd).mp (hi.trans e.symm)).symm
  have R':RelF fd W { σ with H:=σ.H.set i .dead } h:=by
    refine ⟨R.fr,by show W.φ.length = (σ.H.set i _).length; rw [List.length_set]; exact R.len,R.nd,fun j c ob e1 e2=>?_,fun p e=>?_,R.cel,R.cen,R.cec,Zk9 R hi (List.getElem?_eq_getElem il) (by intro e; exact ft e)⟩
    . have e2:(σ.H.set i .dead)[j]? = some ob:=e2
      by_cases q:i = j
      . subst q
        rw [List.getElem?_set_self il] at e2; obtain rfl:=Option.some.inj e2
        refine e1a3 (R.obj i c _ e1 (List.getElem?_eq_getElem il)) fun o₂ h1 h2 h3 _=>?_
        exact ⟨o₂,h1,h2,h3,.dead⟩
      . rw [List.getElem?_set_ne q] at e2
        exact R.obj j c ob e1 e2
    . refine e0a3 (R.frz p e) fun h1 h2 h3 h4=>?_
      refine ⟨h1,h2,h3,fun j e1=>?_⟩
      show (σ.H.set i .dead)[j]? = some .dead
      by_cases q:i = j
      . subst q; exact List.getElem?_set_self il
      . rw [List.getElem?_set_ne q]; exact h4 j e1
  refine ⟨Wd.le_frz _ _ _,R'.ice ho aL ab fun j e=>?_⟩
  rw [inj e]; exact List.getElem?_set_self il
theorem RelF.forget (R:RelF fd W σ h) {loc':List (Str × PV)} (hl:∀ x v,lk x loc' = some v -> lk x σ.loc = some v):RelF fd W { σ with loc:=loc' } h:=by
  refine e1a1 R.fr fun m F lc=>?_
  exact ⟨⟨m,F,fun x v e=>lc x v (hl x v e)⟩,R.len,R.nd,R.obj,R.frz,R.cel,R.cen,R.cec,R.dn⟩
end
noncomputable def VInv (W:Wd) (P:Value -> Prop):PV -> Prop
  | .none=>P .none
  | .bool b=>P (.bool b)
  | .int i=>∀ t,P (.int i t)
  | .str i=>∀ t,P (.str i t)
  | .ref i=>∀ a,W.φ[i]? = some a -> P (.ref a)
  | .con u=>P u
  | .tup xs=>∀ (vs:List Value) (a:Addr) (n:Nat) (o:Obj),(a,o) ∈ W.Z → o.cls = .type "tuple" → o.data = .seq vs.toArray n → VRels W xs vs → P (.ref a)
  | .lst xs=>∀ (vs:List Value) (a:Addr) (n:Nat),(a,((lstO vs n):Obj)) ∈ W.Z -> VRels W xs vs -> P (.ref a)
  | .obj C es=>∀ (a dx:Addr) (ds:List DictEntry) (n:Nat),(a,((instObj C dx):Obj)) ∈ W.Z -> (dx,((dictOf ds n):Obj)) ∈ W.Z -> ARel W es ds -> P (.ref a)
  | .slc _ _ _=>∀ v,P v
  | .rng x y z=>∀ (t u w:Tok) (a:Addr),(a,({ cls:=.type "range", data:=.fields #[.int x t,.int y u,.int z w] }:Obj)) ∈ W.Z → P (.ref a)
  | .any=>∀ v,P v
theorem VRel.inv {W:Wd} {P:Value -> Prop} {p:PV} {v:Value} (h:VRel W p v):VInv W P p -> P v:=by
  cases h with
  | none=>exact id
  | bool b=>exact id
  | int i t=>exact fun k=>k t
  | str i t=>exact fun k=>k t
  | ref e=>exact fun k=>k _ e
  | con u=>exact id
  | tup a b c d=>exact fun k=>k _ _ _ _ a b c d
  | lst a b=>exact fun k=>k _ _ _ a b
  | obj a b c=>exact fun k=>k _ _ _ _ a b c
  | slc _ _ _ _=>exact fun k=>k _
  | rng a=>exact fun k=>k _ _ _ _ a
  | any v=>exact fun k=>k v
section
variable {W:Wd} {P:Value -> Prop} {v:Value}
theorem VRel.none_e (h:VRel W .none v) (k:P .none):P v:=h.inv k
theorem VRel.bool_e {b:Bool} (h:VRel W (.bool b) v) (k:P (.bool b)):P v:=h.inv k
theorem VRel.int_e {i:Int} (h:VRel W (.int i) v) (k:∀ t,P (.int i t)):P v:=h.inv k
theorem VRel.str_e {i:Str} (h:VRel W (.str i) v) (k:∀ t,P (.str i t)):P v:=h.inv k
theorem VRel.ref_e {i:Nat} (h:VRel W (.ref i) v) (k:∀ a,W.φ[i]? = some a -> P (.ref a)):P v:=h.inv k
theorem VRel.con_e {u:Value} (h:VRel W (.con u) v) (k:P u):P v:=h.inv k
theorem VRel.tup_e {xs:List PV} (h:VRel W (.tup xs) v) (k:∀ (vs:List Value) (a:Addr) (n:Nat) (o:Obj),(a,o) ∈ W.Z → o.cls = .type "tuple" → o.data = .seq vs.toArray n → VRels W xs vs → P (.ref a)):P v:=h.inv k
theorem VRel.lst_e {xs:List PV} (h:VRel W (.lst xs) v) (k:∀ (vs:List Value) (a:Addr) (n:Nat),(a,((lstO vs n):Obj)) ∈ W.Z -> VRels W xs vs -> P (.ref a)):P v:=h.inv k
theorem VRel.obj_e {C:Addr} {es:List (Str × PV)} (h:VRel W (.obj C es) v) (k:∀ (a dx:Addr) (ds:List DictEntry) (n:Nat),(a,((instObj C dx):Obj)) ∈ W.Z -> (dx,((dictOf ds n):Obj)) ∈ W.Z -> ARel W es ds -> P (.ref a)):P v:=h.inv k
theorem VRel.rng_e {x y z:Int} (h:VRel W (.rng x y z) v) (k:∀ (t u w:Tok) (a:Addr),(a,({ cls:=.type "range", data:=.fields #[.int x t,.int y u,.int z w] }:Obj)) ∈ W.Z → P (.ref a)):P v:=h.inv k
theorem VRels.nil_e {P:List Value -> Prop} {v:List Value} (h:VRels W [] v) (k:P []):P v:=by cases h; exact k
theorem VRels.cons_e {P:List Value -> Prop} {v:List Value} {p:PV} {ps:List PV} (h:VRels W (p :: ps) v) (k:∀ v vs,VRel W p v -> VRels W ps vs -> P (v :: vs)):P v:=by
  cases h with
  | cons a b=>exact k _ _ a b
end
noncomputable def OInv (W:Wd) (o:Obj):AObj -> Prop
  | .list xs=>∃ vs n,o = lstO vs n /\ VRels W xs vs
  | .dict es=>∃ ds,IntDict o ds /\ DRel W es ds
  | .inst C d=>∃ dx,o = instObj C dx /\ W.φ[d]? = some dx
  | .attrs es=>∃ ds n,o = dictOf ds n /\ ARel W es ds
  | .cell none=>True
  | .cell (some p)=>∃ v,o.data = .cell (some v) /\ VRel W p v
  | .dead=>True
  | .raw o'=>o = o'
  | .ns es=>∃ (m:Str -> Option Value) (vs:List (Str × Value)),LCg.NsObj o m /\ LRel W es vs /\ (∀ x v,vs.lookup x = some v -> m x = some v)
  | .fix a o'=>o = o' /\ ORel W a o
  | .zO k=>∃ TI TO i1 i2,o = { cls:=.type "zip", dict:=none,data:=.fields #[.none,.bool false,.bool false,.ref TI,.ref TO],slots:=#[] } ∧ W.φ[k]? = some TO ∧ W.φ[k + 1]? = some i1 ∧ W.φ[k + 2]? = some i2 ∧ (TI,({ cls:=.type "tuple", data:=.seq #[.ref i1,.ref i2] }:Obj)) ∈ W.Z
  | .zT=>∃ a b,o = { cls:=.type "tuple", data:=.seq #[a,b] }
  | .zi xs=>∃ vs l n,(l,((lstO vs n):Obj)) ∈ W.Z ∧ VRels W xs vs ∧ o.cls = .type "list_iterator" ∧ o.data = .fields #[.ref l,.int 0 0]
theorem ORel.inv {W:Wd} {o:Obj} {a:AObj} (h:ORel W a o):OInv W o a:=by
  cases h with
  | list r=>exact ⟨_,_,rfl,r⟩
  | dict d r=>exact ⟨_,d,r⟩
  | inst e=>exact ⟨_,rfl,e⟩
  | attrs r=>exact ⟨_,_,rfl,r⟩
  | cellN _=>exact trivial
  | cell e r=>exact ⟨_,e,r⟩
  | dead=>exact trivial
  | raw _=>exact rfl
  | ns a r e=>exact ⟨_,_,a,r,e⟩
  | fix r=>exact ⟨rfl,r⟩
  | zO a b c d=>exact ⟨_,_,_,_,rfl,a,b,c,d⟩
  | zT=>exact ⟨_,_,rfl⟩
  | zi z r c d=>exact ⟨_,_,_,z,r,c,d⟩
section
variable {W:Wd} {o:Obj}
theorem ORel.list_i {xs:List PV} (h:ORel W (.list xs) o):∃ vs n,o = lstO vs n /\ VRels W xs vs:=h.inv
theorem ORel.dict_i {es:List (Int × PV)} (h:ORel W (.dict es) o):∃ ds,IntDict o ds /\ DRel W es ds:=h.inv
theorem ORel.inst_i {C:Addr} {d:Nat} (h:ORel W (.inst C d) o):∃ dx,o = instObj C dx /\ W.φ[d]? = some dx:=h.inv
theorem ORel.attrs_i {es:List (Str × PV)} (h:ORel W (.attrs es) o):∃ ds n,o = dictOf ds n /\ ARel W es ds:=h.inv
theorem ORel.cell_i {p:PV} (h:ORel W (.cell (some p)) o):∃ v,o.data = .cell (some v) /\ VRel W p v:=h.inv
theorem ORel.ns_i {es:List (Str × PV)} (h:ORel W (.ns es) o):∃ (m:Str -> Option Value) (vs:List (Str × Value)),LCg.NsObj o m /\ LRel W es vs /\ (∀ x v,vs.lookup x = some v -> m x = some v):=h.inv
theorem ORel.zO_i {k:Nat} (h:ORel W (.zO k) o):∃ TI TO i1 i2,o = { cls:=.type "zip", dict:=none,data:=.fields #[.none,.bool false,.bool false,.ref TI,.ref TO],slots:=#[] } ∧ W.φ[k]? = some TO ∧ W.φ[k + 1]? = some i1 ∧ W.φ[k + 2]? = some i2 ∧ (TI,({ cls:=.type "tuple", data:=.seq #[.ref i1,.ref i2] }:Obj)) ∈ W.Z:=h.inv
theorem ORel.zT_i (h:ORel W .zT o):∃ a b,o = { cls:=.type "tuple", data:=.seq #[a,b] }:=h.inv
theorem ORel.zi_i {xs:List PV} (h:ORel W (.zi xs) o):∃ vs l n,(l,((lstO vs n):Obj)) ∈ W.Z ∧ VRels W xs vs ∧ o.cls = .type "list_iterator" ∧ o.data = .fields #[.ref l,.int 0 0]:=h.inv
theorem ORel.fix_i {a:AObj} {o':Obj} (h:ORel W (.fix a o') o):o = o' /\ ORel W a o:=h.inv
end
end
structure Cx where
  prog:Program
  w:World
  K:Frag
  p:Program
  loose:List Str
  mean:ExcName -> Option Value
  mg:Str -> Option Value
  mb:Str -> Option Value
structure Fi where
  cn:Str
  cs:Scope
  a:Addr
  ccd:Value
  cmp:Option Scope:=none
noncomputable abbrev Fd.env (fd:Fd) (fi:Fi):Env:=envX fi.cn fi.cs fd.L fi.a fi.ccd fd.cl
noncomputable abbrev Fd.A (fd:Fd) (fi:Fi):Around:={ handled:=fd.hd,depth:=fd.dp,frames:=some (fd.env fi :: fd.outer),guards:=fd.gd,units:=fd.un }
noncomputable def Fd.ev (fd:Fd) (fi:Fi):Env:=match fi.cmp with
  | none=>fd.env fi
  | some sc=>compEnvC sc fd.ccl fd.C (fd.env fi)
theorem Zar {fd:Fd} {fi:Fi} (h:fi.cmp = none):fd.ev fi = fd.env fi:=by unfold Fd.ev; rw [h]
theorem ZeX {fd:Fd} {fi:Fi} {sc:Scope} (h:fi.cmp = some sc):fd.ev fi = compEnvC sc fd.ccl fd.C (fd.env fi):=by unfold Fd.ev; rw [h]
noncomputable def kd (fi:Fi):List (Str × NameKind):=match fi.cmp with
  | none=>fi.cs.names
  | some sc=>sc.names.map fun (n,k)=>if (k == .free && fi.cs.kind == .function && fi.cs.names.lookup n == some .cell) then (n,.cell) else (n,k)
theorem kindOf_ev {fd:Fd} {fi:Fi} {x:Str}:(fd.ev fi).kindOf x = (kd fi).lookup x:=by
  unfold Fd.ev kd
  cases fi.cmp <;> rfl
theorem Zdl {fi:Fi} (h:fi.cmp = none):kd fi = fi.cs.names:=by unfold kd; rw [h]
noncomputable abbrev Cx.M (C:Cx):Model:=model C.prog C.w
structure OkF (C:Cx) (k:Nat) (fi:Fi) (fd:Fd):Prop where
  B:Below fd.A₀ fd.base fd.outer fd.b
  X:C.K.In fd.b
  T:Top C.p C.loose C.mean C.mg C.mb fd.b
  kf:fi.cs.kind = .function
  kc:∀ sc,fi.cmp = some sc -> sc.kind = .function
  hn:fd.hd = none ∨ k = 0
  dp:fd.dp + 10 * k < 990
  un:fd.un + 100 * k < 9000
  ho:k <= 60 ∨ (k = 61 /\ fd.outer = [])
noncomputable abbrev Rl (fd:Fd) (W:Wd) (σ:St) (h:Heap):Prop:=RelF fd W σ h
noncomputable abbrev Bk {α:Type} (fd:Fd) (W:Wd) (σ':St) (s:Shared) (P:Wd -> α -> Prop) (Q:α -> Shared -> Prop):Prop:=
  ∀ W' x h' tk',W.le W' -> Rl fd W' σ' h' -> P W' x -> Q x { s with heap:=h',toks:=tk' }
noncomputable def Jt {α:Type} (C:Cx) (k:Nat) (fi:Fi) (σ:St) (t:Fd -> Sem α) (P:Wd -> α -> Prop) (σ':St):Prop:=
  ∀ (fd:Fd) (W:Wd) (s:Shared) (Q:α -> Shared -> Prop) (E:Value -> Shared -> Prop),OkF C k fi fd -> Rl fd W σ s.heap -> Bk fd W σ' s P Q -> wpAny C.M (fd.A fi) (t fd) Q E s
noncomputable def Ev (C:Cx) (k:Nat) (fi:Fi) (σ:St) (e:Expr) (v:PV) (σ':St):Prop:=Jt C k fi σ (fun fd=>eval e (fd.ev fi)) (fun W x=>VRel W v x) σ'
noncomputable def Ts (C:Cx) (k:Nat) (fi:Fi) (σ:St) (e:Expr) (b:Bool) (σ':St):Prop:=Jt C k fi σ (fun fd=>isTrue e (fd.ev fi) (eval e (fd.ev fi))) (fun _ x=>x = b) σ'
noncomputable def Evs (C:Cx) (k:Nat) (fi:Fi) (σ:St) (es:List Expr) (pos:Pos) (vs:List PV) (σ':St):Prop:=Jt C k fi σ (fun fd=>spliced (backTo pos (starEach es (fd.ev fi)))) (fun W x=>VRels W vs x) σ'
inductive Out where
  | next
  | cont
  | brk
  | ret (v:PV)
inductive FRel (W:Wd):Out -> Flow -> Prop
  | next:FRel W .next .next
  | cont:FRel W .cont .cont
  | brk:FRel W .brk .brk
  | ret {p:PV} {v:Value}:VRel W p v -> FRel W (.ret p) (.ret v)
noncomputable def FInv (W:Wd) (P:Flow -> Prop):Out -> Prop
  | .next=>P .next
  | .cont=>P .cont
  | .brk=>P .brk
  | .ret p=>∀ v,VRel W p v -> P (.ret v)
theorem FRel.inv {W:Wd} {P:Flow -> Prop} {o:Out} {f:Flow} (h:FRel W o f):FInv W P o -> P f:=by
  cases h with
  | next=>exact id
  | cont=>exact id
  | brk=>exact id
  | ret z=>exact fun k=>k _ z
theorem FRel.next_e {W:Wd} {P:Flow -> Prop} {f:Flow} (h:FRel W .next f) (k:P .next):P f:=h.inv k
theorem FRel.ret_e {W:Wd} {P:Flow -> Prop} {p:PV} {f:Flow} (h:FRel W (.ret p) f) (k:∀ v,VRel W p v -> P (.ret v)):P f:=h.inv k
noncomputable def Ex1 (C:Cx) (k:Nat) (fi:Fi) (σ:St) (st:Stmt) (o:Out) (σ':St):Prop:=Jt C k fi σ (fun fd=>exec st (fd.ev fi)) (fun W x=>FRel W o x) σ'
noncomputable def Ex (C:Cx) (k:Nat) (fi:Fi) (σ:St) (ss:List Stmt) (o:Out) (σ':St):Prop:=Jt C k fi σ (fun fd=>execs ss (fd.ev fi)) (fun W x=>FRel W o x) σ'
noncomputable def BinJ (C:Cx) (k:Nat) (fi:Fi) (σ:St) (op:Operator) (a b c:PV) (σ':St):Prop:=
  ∀ (fd:Fd) (W:Wd) (s:Shared) (va vb:Value) (Q E:Value -> Shared -> Prop),OkF C k fi fd -> Rl fd W σ s.heap -> VRel W a va -> VRel W b vb -> Bk fd W σ' s (fun W x=>VRel W c x) Q -> wpAny C.M (fd.A fi) (binaryOp op va vb) Q E s
noncomputable def UnJ (C:Cx) (k:Nat) (fi:Fi) (σ:St) (op:UnaryOp) (a c:PV) (σ':St):Prop:=
  ∀ (fd:Fd) (W:Wd) (s:Shared) (va:Value) (Q E:Value -> Shared -> Prop),OkF C k fi fd -> Rl fd W σ s.heap -> VRel W a va -> Bk fd W σ' s (fun W x=>VRel W c x) Q -> wpAny C.M (fd.A fi) (unaryOp op va) Q E s
noncomputable def CmpJ (C:Cx) (k:Nat) (fi:Fi) (σ:St) (op:CmpOp) (a b:PV) (r:Bool) (σ':St):Prop:=
  ∀ (fd:Fd) (W:Wd) (s:Shared) (va vb:Value) (Q E:Value -> Shared -> Prop),OkF C k fi fd -> Rl fd W σ s.heap -> VRel W a va -> VRel W b vb -> Bk fd W σ' s (fun _ x=>x = .bool r) Q -> wpAny C.M (fd.A fi) (compareOp op va vb) Q E s
noncomputable def TrJ (C:Cx) (k:Nat) (fi:Fi) (σ:St) (a:PV) (r:Bool) (σ':St):Prop:=
  ∀ (fd:Fd) (W:Wd) (s:Shared) (va:Value) (Q:Bool -> Shared -> Prop) (E:Value -> Shared -> Prop),OkF C k fi fd -> Rl fd W σ s.heap -> VRel W a va -> Bk fd W σ' s (fun _ x=>x = r) Q -> wpAny C.M (fd.A fi) (truthy va) Q E s
noncomputable def GaJ (C:Cx) (k:Nat) (fi:Fi) (σ:St) (a:PV) (n:Str) (r:PV) (σ':St):Prop:=
  ∀ (fd:Fd) (W:Wd) (s:Shared) (va:Value) (Q E:Value -> Shared -> Prop),OkF C k fi fd -> Rl fd W σ s.heap -> VRel W a va -> Bk fd W σ' s (fun W x=>VRel W r x) Q -> wpAny C.M (fd.A fi) (getAttr va n true) Q E s
noncomputable def SaJ (C:Cx) (k:Nat) (fi:Fi) (σ:St) (a:PV) (n:Str) (u:PV) (σ':St):Prop:=
  ∀ (fd:Fd) (W:Wd) (s:Shared) (va vu:Value) (Q:Unit -> Shared -> Prop) (E:Value -> Shared -> Prop),OkF C k fi fd -> Rl fd W σ s.heap -> VRel W a va -> VRel W u vu -> Bk fd W σ' s (fun _ _=>True) Q -> wpAny C.M (fd.A fi) (setAttr va n vu) Q E s
noncomputable def SbJ (C:Cx) (k:Nat) (fi:Fi) (σ:St) (value slice:Expr) (a i r:PV) (σ':St):Prop:=
  ∀ (fd:Fd) (W:Wd) (s:Shared) (va vi:Value) (Q E:Value -> Shared -> Prop),OkF C k fi fd -> Rl fd W σ s.heap -> VRel W a va -> VRel W i vi -> Bk fd W σ' s (fun W x=>VRel W r x) Q -> wpAny C.M (fd.A fi) (subscriptTail value slice va vi) Q E s
noncomputable def SiJ (C:Cx) (k:Nat) (fi:Fi) (σ:St) (a i u:PV) (σ':St):Prop:=
  ∀ (fd:Fd) (W:Wd) (s:Shared) (va vi vu:Value) (Q:Unit -> Shared -> Prop) (E:Value -> Shared -> Prop),OkF C k fi fd -> Rl fd W σ s.heap -> VRel W a va -> VRel W i vi -> VRel W u vu -> Bk fd W σ' s (fun _ _=>True) Q -> wpAny C.M (fd.A fi) (setItem va vi vu) Q E s
noncomputable def MeJ (C:Cx) (k:Nat) (fi:Fi) (σ:St) (a:PV) (n:Str) (f:Value) (first:List PV):Prop:=
  ∀ (fd:Fd) (W:Wd) (s:Shared) (va:Value) (pl:Sem Bool) (Q:Value × List Value -> Shared -> Prop) (E:Value -> Shared -> Prop),OkF C k fi fd -> Rl fd W σ s.heap -> VRel W a va ->
    Bk fd W σ s (fun W x=>x.1 = f /\ VRels W first x.2) Q -> wpAny C.M (fd.A fi) (getMethod va n pl) Q E s
noncomputable def CallJ (C:Cx) (k:Nat) (f:Value) (args:List PV) (H:List AObj) (r:PV) (H':List AObj):Prop:=
  ∀ (fi:Fi) (loc:List (Str × PV)) (cm:List (Str × Nat)) (ci:Option Nat) (cc:List (Str × Nat)) (fd:Fd) (W:Wd) (s:Shared) (vs:List Value) (Q E:Value -> Shared -> Prop),OkF C k fi fd -> Rl fd W ⟨loc,cm,H,ci,cc⟩ s.heap -> VRels W args vs ->
    Bk fd W ⟨loc,cm,H',ci,cc⟩ s (fun W x=>VRel W r x) Q -> wpAny C.M (fd.A fi) (call f vs) Q E s
noncomputable def CodeJ (C:Cx) (k:Nat) (f:Value) (args:List PV) (H:List AObj) (r:PV) (H':List AObj):Prop:=
  ∀ (fi:Fi) (loc:List (Str × PV)) (cm:List (Str × Nat)) (ci:Option Nat) (cc:List (Str × Nat)) (fd:Fd) (W:Wd) (s:Shared) (vs:List Value) (Q E:Value -> Shared -> Prop),OkF C k fi fd -> Rl fd W ⟨loc,cm,H,ci,cc⟩ s.heap -> VRels W args vs ->
    Bk fd W ⟨loc,cm,H',ci,cc⟩ s (fun W x=>VRel W r x) Q -> codeAny C.M (fd.A fi) (.call f ⟨vs,[]⟩) (fun r s'=>match r with | .ok (.ret v)=>Q v s' | .ok _=>False | .error e=>E e s') s
theorem CodeJ.call {C:Cx} {k:Nat} {f:Value} {args:List PV} {H H':List AObj} {r:PV} (h:CodeJ C k f args H r H'):CallJ C k f args H r H':=
  fun fi loc cm ci cc fd W s vs Q E ok R V b=>wpAny_call (h fi loc cm ci cc fd W s vs Q E ok R V b)
theorem OkF.le {C:Cx} {k k':Nat} {fi:Fi} {fd:Fd} (h:OkF C k fi fd) (l:k' <= k):OkF C k' fi fd:=
  ⟨h.B,h.X,h.T,h.kf,h.kc,by rcases h.hn with e | e; exact .inl e; exact .inr (by lia),by have:=h.dp; lia,by have:=h.un; lia,by
    rcases h.ho with e | e
    . exact .inl (by lia)
    . by_cases q:k' <= 60
      . exact .inl q
      . exact .inr ⟨by lia,e.2⟩⟩
section
variable {C:Cx} {k:Nat} {fi:Fi} {σ σ₁ σ₂ σ₃ σ':St}
theorem ZfZ {i:Int} {n:Nat} {pos:Pos}:Ev C k fi σ (.Constant (.int i) n pos) (.int i) σ:=fun _ W s _ _ _ R b=>wpAny_Constant_int (b W _ s.heap _ (.refl _) R (.int i _))
theorem ZkW {i:Str} {n:Nat} {pos:Pos}:Ev C k fi σ (.Constant (.str i) n pos) (.str i) σ:=fun _ W s _ _ _ R b=>Calls.Constant_str (b W _ s.heap _ (.refl _) R (.str i _))
theorem ZmJ {i:Bool} {n:Nat} {pos:Pos}:Ev C k fi σ (.Constant (.bool i) n pos) (.bool i) σ:=fun _ W s _ _ _ R b=>Constant_bool (b W _ s.heap s.toks (.refl _) R (.bool i))
theorem ZmE {n:Nat} {pos:Pos}:Ev C k fi σ (.Constant .none n pos) .none σ:=fun _ W s _ _ _ R b=>wpAny_Constant_none (b W _ s.heap s.toks (.refl _) R .none)
theorem ZaS {fd:Fd} (ok:OkF C k fi fd):(fd.ev fi).scope.kind = .function:=by
  unfold Fd.ev
  cases h:fi.cmp with
  | none=>exact ok.kf
  | some sc=>exact ok.kc sc h
theorem Zit {x:Str} {pos:Pos} {v:PV} (hv:lk x σ.loc = some v) (hc:fi.cmp = none:=by rfl) (hk:(kd fi).lookup x = some .local:=by rfl) (hd:(x == ("__debug__" : Str)) = false:=by decide):Ev C k fi σ (.Name x pos) v σ:=by
  intro fd W s Q E ok R b
  refine e1a1 R.fr fun m F lc=>?_
  refine e1a1 (lc x v hv) fun v' h1 h2=>?_
  refine wpAny_Name (wpAny_loadName_local (ZaS ok) (kindOf_ev.trans hk) (m:=m) ?_ h1 (b W _ s.heap s.toks (.refl _) R h2)) hd
  show s.heap.Ns (fd.ev fi).locals m
  rw [Zar hc]; exact F.ns
noncomputable def locB (fi:Fi) (x:Str):Bool:=fi.cmp.isNone && ((kd fi).lookup x == some .local && !(x == ("__debug__" : Str)))
theorem ZmF {x:Str} {pos:Pos} {v:PV} (hv:lk x σ.loc = some v) (h:locB fi x = true):Ev C k fi σ (.Name x pos) v σ:=by
  simp only [locB,Bool.and_eq_true,beq_iff_eq,Option.isNone_iff_eq_none,Bool.not_eq_true'] at h
  exact Zit hv h.1 h.2.1 h.2.2
theorem ZhL {fd:Fd} {W:Wd} {σ:St} {h:Heap} (R:Rl fd W σ h) {a:Addr} {i:Nat} {v:PV} (h2:W.φ[i]? = some a) (hv:σ.H[i]? = some (.cell (some v))):∃ u,h.IsCell a (some u) /\ VRel W v u:=by
  refine e1a3 (R.obj i a _ h2 hv) fun o h3 h4 h5 h6=>?_
  refine e1a1 (ORel.cell_i h6) fun _ e r=>?_
  exact ⟨_,⟨o,h3,e⟩,r⟩
theorem ZmI {x:Str} {pos:Pos} {i:Nat} {v:PV} (hc:lkN x σ.cm = some i) (hv:σ.H[i]? = some (.cell (some v))) (hcm:fi.cmp = none:=by rfl) (hk:(kd fi).lookup x = some .cell:=by rfl) (hd:(x == ("__debug__" : Str)) = false:=by decide):Ev C k fi σ (.Name x pos) v σ:=by
  intro fd W s Q E ok R b
  refine e1a1 (R.cel x i hc) fun a h1 h2=>?_
  refine e1a1 (ZhL R h2 hv) fun u h3 h4=>?_
  refine wpAny_Name (wpAny_loadName_cell (ZaS ok) (kindOf_ev.trans hk) ?_ h3 (b W _ s.heap s.toks (.refl _) R h4)) hd
  show (fd.ev fi).cells.lookup x = some a
  rw [Zar hcm]; exact h1
theorem ZjV {x:Str} {pos:Pos} {i:Nat} {v:PV} {sc:Scope} (hc:lkN x σ.cc = some i) (hv:σ.H[i]? = some (.cell (some v))) (hcm:fi.cmp = some sc:=by rfl) (hk:(kd fi).lookup x = some .cell:=by rfl) (hd:(x == ("__debug__" : Str)) = false:=by decide):Ev C k fi σ (.Name x pos) v σ:=by
  intro fd W s Q E ok R b
  refine e1a1 (R.cec x i hc) fun a h1 h2=>?_
  refine e1a1 (ZhL R h2 hv) fun u h3 h4=>?_
  refine wpAny_Name (wpAny_loadName_cell (ZaS ok) (kindOf_ev.trans hk) ?_ h3 (b W _ s.heap s.toks (.refl _) R h4)) hd
  show (fd.ev fi).cells.lookup x = some a
  rw [ZeX hcm]; exact h1
theorem ZmH {x:Str} {pos:Pos} {i:Nat} {es:List (Str × PV)} {v:PV} {sc:Scope} (hi:σ.ci = some i) (ho:σ.H[i]? = some (.ns es)) (hv:lk x es = some v) (hcm:fi.cmp = some sc:=by rfl) (hk:(kd fi).lookup x = some .local:=by rfl) (hd:(x == ("__debug__" : Str)) = false:=by decide):Ev C k fi σ (.Name x pos) v σ:=by
  intro fd W s Q E ok R b
  have h2:=R.cen i hi
  refine e1a3 (R.obj i _ _ h2 ho) fun o h3 h4 h5 h6=>?_
  refine e2a2 (ORel.ns_i h6) fun _ _ no lr hm=>?_
  refine e1a1 (LRel.lookup lr hv) fun u e1 e2=>?_
  refine wpAny_Name (wpAny_loadName_local (ZaS ok) (kindOf_ev.trans hk) ?_ (hm x u e1) (b W _ s.heap s.toks (.refl _) R e2)) hd
  show s.heap.Ns (fd.ev fi).locals _
  rw [ZeX hcm]; exact no.ns h3
theorem Ziv {x:Str} {pos:Pos} {v:Value} (hv:nsIn C.K mainGlobals x = some (some v)) (hk:(kd fi).lookup x = some .globalImplicit:=by rfl) (hd:(x == ("__debug__" : Str)) = false:=by decide):Ev C k fi σ (.Name x pos) (.con v) σ:=by
  intro fd W s Q E ok R b
  refine e1a1 R.fr fun m F lc=>?_
  have T:=topRead_of ok.T
  refine Name_function_global (ZaS ok) (kindOf_ev.trans hk) ?_ hd
  have g:(fd.ev fi).globals = mainGlobals:=by unfold Fd.ev; cases fi.cmp <;> rfl
  refine loadGlobal_global (env:=fd.ev fi) (mg:=C.mg) ?_ (mg_of ok.X T.g hv) (b W _ s.heap s.toks (.refl _) R (.con v))
  rw [g]; exact T.g.keeps F.keep
theorem Zf0 {x:Str} {pos:Pos} {v:Value} {p:PV} (hv:nsIn C.K mainGlobals x = some (some v)) (hp:∀ W,VRel W p v) (hk:(kd fi).lookup x = some .globalImplicit:=by rfl) (hd:(x == ("__debug__" : Str)) = false:=by decide):Ev C k fi σ (.Name x pos) p σ:=by
  intro fd W s Q E ok R b
  refine Ziv hv hk hd fd W s Q E ok R fun W' x h' tk' l R' V=>?_
  apply VRel.con_e V
  exact b W' _ h' tk' l R' (hp _)
theorem ZjW {x:Str} {pos:Pos} {v:Value} (hv:nsIn C.K mainGlobals x = some none) (hb:bootBuiltins x = some v) (hn:x ≠ "__name__" := by decide) (hk:(kd fi).lookup x = some .globalImplicit:=by rfl) (hd:(x == ("__debug__" : Str)) = false:=by decide) :
    Ev C k fi σ (.Name x pos) (.con v) σ:=by
  intro fd W s Q E ok R b
  refine e1a1 R.fr fun m F lc=>?_
  have T:=topRead_of ok.T
  refine Name_function_global (ZaS ok) (kindOf_ev.trans hk) ?_ hd
  have g:(fd.ev fi).globals = mainGlobals:=by unfold Fd.ev; cases fi.cmp <;> rfl
  have g':(fd.ev fi).builtins = builtinsNs:=by unfold Fd.ev; cases fi.cmp <;> rfl
  refine loadGlobal_builtin (env:=fd.ev fi) (mg:=C.mg) (mb:=C.mb) ?_ (mg_none_of ok.X T.g hv) ?_ ((T.builtins x hn).trans hb) (b W _ s.heap s.toks (.refl _) R (.con v))
  . rw [g]; exact T.g.keeps F.keep
  . rw [g']; exact T.b.keeps F.keep
theorem ZjT {x:Str} {pos:Pos} {i:Int} {t:Tok} (hv:nsIn C.K mainGlobals x = some (some (.int i t))) (hk:(kd fi).lookup x = some .globalImplicit:=by rfl) (hd:(x == ("__debug__" : Str)) = false:=by decide):Ev C k fi σ (.Name x pos) (.int i) σ:=Zf0 hv (fun _=>.int i t) hk hd
theorem ZjS {x:Str} {pos:Pos} {i:Str} {t:Tok} (hv:nsIn C.K mainGlobals x = some (some (.str i t))) (hk:(kd fi).lookup x = some .globalImplicit:=by rfl) (hd:(x == ("__debug__" : Str)) = false:=by decide):Ev C k fi σ (.Name x pos) (.str i) σ:=Zf0 hv (fun _=>.str i t) hk hd
theorem ZbY {l r:Expr} {op:Operator} {pos:Pos} {a b c:PV} (h1:Ev C k fi σ l a σ₁) (h2:Ev C k fi σ₁ r b σ₂) (h3:BinJ C k fi σ₂ op a b c σ₃):Ev C k fi σ (.BinOp l op r pos) c σ₃:=by
  intro fd W s Q E ok R bk
  refine wpAny_BinOp (h1 fd W s _ E ok R fun W1 v1 g1 t1 l1 R1 V1=>h2 fd W1 _ _ E ok R1 fun W2 v2 g2 t2 l2 R2 V2=>h3 fd W2 _ _ _ Q E ok R2 (VRel.mono l2 V1) V2 fun W3 v3 g3 t3 l3 R3 V3=>?_)
  exact bk W3 v3 g3 t3 (l1.trans (l2.trans l3)) R3 V3
theorem ZoX {x:Expr} {op:UnaryOp} {pos:Pos} {a c:PV} (h1:Ev C k fi σ x a σ₁) (h3:UnJ C k fi σ₁ op a c σ₂):Ev C k fi σ (.UnaryOp op x pos) c σ₂:=by
  intro fd W s Q E ok R bk
  refine UnaryOp_ (h1 fd W s _ E ok R fun W1 v1 g1 t1 l1 R1 V1=>h3 fd W1 _ _ Q E ok R1 V1 fun W3 v3 g3 t3 l3 R3 V3=>?_)
  exact bk W3 v3 g3 t3 (l1.trans l3) R3 V3
theorem ZkY {l r:Expr} {op:CmpOp} {pos:Pos} {a b:PV} {c:Bool} (h1:Ev C k fi σ l a σ₁) (h2:Ev C k fi σ₁ r b σ₂) (h3:CmpJ C k fi σ₂ op a b c σ₃) (hm:behindInMarks op r = false:=by rfl):Ev C k fi σ (.Compare l [op] [r] pos) (.bool c) σ₃:=by
  intro fd W s Q E ok R bk
  refine wpAny_Compare1 (h1 fd W s _ E ok R fun W1 v1 g1 t1 l1 R1 V1=>h2 fd W1 _ _ E ok R1 fun W2 v2 g2 t2 l2 R2 V2=>h3 fd W2 _ _ _ Q E ok R2 (VRel.mono l2 V1) V2 fun W3 v3 g3 t3 l3 R3 V3=>?_) hm
  subst V3
  exact bk W3 _ g3 t3 (l1.trans (l2.trans l3)) R3 (.bool c)
theorem Zal {l r:Expr} {op:CmpOp} {pos:Pos} {a b:PV} {c:Bool} (h1:Ev C k fi σ l a σ₁) (h2:Ev C k fi σ₁ r b σ₂) (h3:CmpJ C k fi σ₂ op a b c σ₃) (hm:behindInMarks op r = false:=by rfl):Ts C k fi σ (.Compare l [op] [r] pos) c σ₃:=by
  intro fd W s Q E ok R bk
  refine wpAny_isTrue_Compare1 (h1 fd W s _ E ok R fun W1 v1 g1 t1 l1 R1 V1=>h2 fd W1 _ _ E ok R1 fun W2 v2 g2 t2 l2 R2 V2=>h3 fd W2 _ _ _ _ E ok R2 (VRel.mono l2 V1) V2 fun W3 v3 g3 t3 l3 R3 V3=>?_) hm
  subst V3
  exact wpAny_truthy_bool (bk W3 _ g3 t3 (l1.trans (l2.trans l3)) R3 rfl)
theorem Zei {x:Expr} {pos:Pos} {c:Bool} (h:Ts C k fi σ x c σ'):Ts C k fi σ (.UnaryOp .Not x pos) (!c) σ':=by
  intro fd W s Q E ok R bk
  refine isTrue_not (h fd W s _ E ok R fun W1 v1 g1 t1 l1 R1 V1=>?_)
  subst V1
  exact bk W1 _ g1 t1 l1 R1 rfl
noncomputable def TsB (C:Cx) (k:Nat) (fi:Fi) (σ:St) (op:BoolOp) (es:List Expr) (pos:Pos) (b:Bool) (σ':St):Prop:=∀ whole:Fd -> Sem Value,Jt C k fi σ (fun fd=>isTrue (.BoolOp op es pos) (fd.ev fi) (whole fd)) (fun _ x=>x = b) σ'
theorem ZjI {pos:Pos}:TsB C k fi σ .And [] pos true σ:=fun _ _ W s _ _ _ R bk=>isTrue_and_nil (bk W _ s.heap s.toks (.refl _) R rfl)
theorem Zfb {pos:Pos}:TsB C k fi σ .Or [] pos false σ:=fun _ _ W s _ _ _ R bk=>isTrue_or_nil (bk W _ s.heap s.toks (.refl _) R rfl)
theorem ZjH {x:Expr} {r:List Expr} {pos:Pos} {c:Bool} (h:Ts C k fi σ x true σ₁) (h2:TsB C k fi σ₁ .And r pos c σ'):TsB C k fi σ .And (x :: r) pos c σ':=by
  intro wh fd W s Q E ok R bk
  refine isTrue_and (h fd W s _ E ok R fun W1 v1 g1 t1 l1 R1 V1=>?_)
  subst V1
  simp only [if_true]
  exact h2 wh fd W1 _ Q E ok R1 fun W2 v2 g2 t2 l2 R2 V2=>bk W2 v2 g2 t2 (l1.trans l2) R2 V2
theorem ZdD {x:Expr} {r:List Expr} {pos:Pos} (h:Ts C k fi σ x false σ₁):TsB C k fi σ .And (x :: r) pos false σ₁:=by
  intro wh fd W s Q E ok R bk
  refine isTrue_and (h fd W s _ E ok R fun W1 v1 g1 t1 l1 R1 V1=>?_)
  subst V1
  simp only [Bool.false_eq_true,if_false]
  exact bk W1 _ g1 t1 l1 R1 rfl
theorem Zl0 {x:Expr} {r:List Expr} {pos:Pos} {c:Bool} (h:Ts C k fi σ x false σ₁) (h2:TsB C k fi σ₁ .Or r pos c σ'):TsB C k fi σ .Or (x :: r) pos c σ':=by
  intro wh fd W s Q E ok R bk
  refine isTrue_or (h fd W s _ E ok R fun W1 v1 g1 t1 l1 R1 V1=>?_)
  subst V1
  simp only [Bool.false_eq_true,if_false]
  exact h2 wh fd W1 _ Q E ok R1 fun W2 v2 g2 t2 l2 R2 V2=>bk W2 v2 g2 t2 (l1.trans l2) R2 V2
theorem ZlZ {x:Expr} {r:List Expr} {pos:Pos} (h:Ts C k fi σ x true σ₁):TsB C k fi σ .Or (x :: r) pos true σ₁:=by
  intro wh fd W s Q E ok R bk
  refine isTrue_or (h fd W s _ E ok R fun W1 v1 g1 t1 l1 R1 V1=>?_)
  subst V1
  simp only [if_true]
  exact bk W1 _ g1 t1 l1 R1 rfl
theorem Zcx {op:BoolOp} {es:List Expr} {pos:Pos} {b:Bool} (h:TsB C k fi σ op es pos b σ'):Ts C k fi σ (.BoolOp op es pos) b σ':=h fun fd=>eval (.BoolOp op es pos) (fd.ev fi)
theorem Zl1 {x:Expr} {r:List Expr} {pos:Pos} {c d:Bool} (h:Ts C k fi σ x c σ) (h2:c = true -> TsB C k fi σ .And r pos d σ):TsB C k fi σ .And (x :: r) pos (c && d) σ:=by
  cases c with
  | false=>exact ZdD h
  | true=>exact ZjH h (h2 rfl)
theorem Zel {x:Expr} {r:List Expr} {pos:Pos} {c d:Bool} (h:Ts C k fi σ x c σ) (h2:c = false -> TsB C k fi σ .Or r pos d σ):TsB C k fi σ .Or (x :: r) pos (c || d) σ:=by
  cases c with
  | true=>exact ZlZ h
  | false=>exact Zl0 h (h2 rfl)
theorem Zb8 {e:Expr} {a:PV} {c:Bool} (h:Ev C k fi σ e a σ₁) (h2:TrJ C k fi σ₁ a c σ')
    (hp:∀ env whole,isTrue e env whole = (do let v <- whole; standAt e.pos; holding [v] (truthy v)):=by intro _ _; rfl):Ts C k fi σ e c σ':=by
  intro fd W s Q E ok R bk
  refine isTrue_plain (h fd W s _ E ok R fun W1 v1 g1 t1 l1 R1 V1=>h2 fd W1 _ _ Q E ok R1 V1 fun W2 v2 g2 t2 l2 R2 V2=>?_) (hp _ _)
  exact bk W2 v2 g2 t2 (l1.trans l2) R2 V2
theorem ZbH {c:Bool}:TrJ C k fi σ (.bool c) c σ:=by
  intro fd W s va Q E ok R V bk
  apply VRel.bool_e V
  exact wpAny_truthy_bool (bk W _ s.heap s.toks (.refl _) R rfl)
theorem Ziu {t x y:Expr} {pos:Pos} {v:PV} (h:Ts C k fi σ t true σ₁) (h2:Ev C k fi σ₁ x v σ'):Ev C k fi σ (.IfExp t x y pos) v σ':=by
  intro fd W s Q E ok R bk
  refine IfExp_ (h fd W s _ E ok R fun W1 v1 g1 t1 l1 R1 V1=>?_)
  subst V1
  simp only [if_true]
  exact h2 fd W1 _ Q E ok R1 fun W2 v2 g2 t2 l2 R2 V2=>bk W2 v2 g2 t2 (l1.trans l2) R2 V2
theorem ZkX {t x y:Expr} {pos:Pos} {v:PV} (h:Ts C k fi σ t false σ₁) (h2:Ev C k fi σ₁ y v σ'):Ev C k fi σ (.IfExp t x y pos) v σ':=by
  intro fd W s Q E ok R bk
  refine IfExp_ (h fd W s _ E ok R fun W1 v1 g1 t1 l1 R1 V1=>?_)
  subst V1
  simp only [Bool.false_eq_true,if_false]
  exact h2 fd W1 _ Q E ok R1 fun W2 v2 g2 t2 l2 R2 V2=>bk W2 v2 g2 t2 (l1.trans l2) R2 V2
theorem Zfg {t x y:Expr} {pos:Pos} {c:Bool} {v:PV} (h:Ts C k fi σ t c σ₁) (h1:c = true -> Ev C k fi σ₁ x v σ') (h2:c = false -> Ev C k fi σ₁ y v σ'):Ev C k fi σ (.IfExp t x y pos) v σ':=by
  cases c with
  | true=>exact Ziu h (h1 rfl)
  | false=>exact ZkX h (h2 rfl)
theorem Ziz {e:Expr} {n:Str} {pos:Pos} {a r:PV} (h:Ev C k fi σ e a σ₁) (h2:GaJ C k fi σ₁ a n r σ')
    (he:∀ env,eval (e.Attribute n pos) env = (do let o <- eval e env; standAt pos.atName; let r <- holding [o] (getAttr o n true); letTemporaryGo e o r; pure r):=by intro _; rfl):Ev C k fi σ (e.Attribute n pos) r σ':=by
  intro fd W s Q E ok R bk
  refine Attribute_any_ (h fd W s _ E ok R fun W1 v1 g1 t1 l1 R1 V1=>h2 fd W1 _ _ Q E ok R1 V1 fun W2 v2 g2 t2 l2 R2 V2=>?_) (he _)
  exact bk W2 v2 g2 t2 (l1.trans l2) R2 V2
theorem Zaj {e sl:Expr} {pos:Pos} {a i r:PV} (h:Ev C k fi σ e a σ₁) (h2:Ev C k fi σ₁ sl i σ₂) (h3:SbJ C k fi σ₂ e sl a i r σ'):Ev C k fi σ (e.Subscript sl pos) r σ':=by
  intro fd W s Q E ok R bk
  refine Subscript_ (h fd W s _ E ok R fun W1 v1 g1 t1 l1 R1 V1=>h2 fd W1 _ _ E ok R1 fun W2 v2 g2 t2 l2 R2 V2=>h3 fd W2 _ _ _ Q E ok R2 (VRel.mono l2 V1) V2 fun W3 v3 g3 t3 l3 R3 V3=>?_)
  exact bk W3 v3 g3 t3 (l1.trans (l2.trans l3)) R3 V3
theorem ZH {pos:Pos}:Evs C k fi σ [] pos [] σ:=fun _ W s _ _ _ R bk=>spliced_none (bk W _ s.heap s.toks (.refl _) R .nil)
theorem Zu {e:Expr} {r:List Expr} {pos:Pos} {v:PV} {vs:List PV} (h:Ev C k fi σ e v σ₁) (h2:Evs C k fi σ₁ r pos vs σ')
    (he:∀ env,starEach (e :: r) env = (false,eval e env) :: starEach r env:=by intro _; rfl):Evs C k fi σ (e :: r) pos (v :: vs) σ':=by
  intro fd W s Q E ok R bk
  refine spliced_more (h fd W s _ E ok R fun W1 v1 g1 t1 l1 R1 V1=>h2 fd W1 _ _ E ok R1 fun W2 v2 g2 t2 l2 R2 V2=>?_) (he _)
  exact bk W2 _ g2 t2 (l1.trans l2) R2 (.cons (VRel.mono l2 V1) V2)
theorem Ze:Ex C k fi σ [] .next σ:=fun _ W s _ _ _ R bk=>wpAny_execs_nil (bk W _ s.heap s.toks (.refl _) R .next)
theorem Za {st:Stmt} {r:List Stmt} {o:Out} (h:Ex1 C k fi σ st .next σ₁) (h2:Ex C k fi σ₁ r o σ'):Ex C k fi σ (st :: r) o σ':=by
  intro fd W s Q E ok R bk
  refine wpAny_execs_cons (h fd W s _ E ok R fun W1 v1 g1 t1 l1 R1 V1=>?_)
  apply FRel.next_e V1
  exact h2 fd W1 _ Q E ok R1 fun W2 v2 g2 t2 l2 R2 V2=>bk W2 v2 g2 t2 (l1.trans l2) R2 V2
theorem Zy {st:Stmt} {r:List Stmt} {o:Out} (h:Ex1 C k fi σ st o σ') (hn:o ≠ .next):Ex C k fi σ (st :: r) o σ':=by
  intro fd W s Q E ok R bk
  refine wpAny_execs_cons (h fd W s _ E ok R fun W1 v1 g1 t1 l1 R1 V1=>?_)
  cases V1 with
  | next=>exact absurd rfl hn
  | cont=>exact bk W1 _ g1 t1 l1 R1 .cont
  | brk=>exact bk W1 _ g1 t1 l1 R1 .brk
  | ret r=>exact bk W1 _ g1 t1 l1 R1 (.ret r)
theorem Z1 {e:Expr} {pos:Pos} {v:PV} (h:Ev C k fi σ e v σ'):Ex1 C k fi σ (.Return (some e) pos) (.ret v) σ':=by
  intro fd W s Q E ok R bk
  exact wpAny_Return_some (h fd W s _ E ok R fun W1 v1 g1 t1 l1 R1 V1=>bk W1 _ g1 t1 l1 R1 (.ret V1))
theorem Zim {pos:Pos}:Ex1 C k fi σ (.Continue pos) .cont σ:=fun _ W s _ _ _ R bk=>wpAny_Continue (bk W _ s.heap s.toks (.refl _) R .cont)
theorem Zet {t:Expr} {x y:List Stmt} {pos:Pos} {o:Out} (h:Ts C k fi σ t true σ₁) (h2:Ex C k fi σ₁ x o σ'):Ex1 C k fi σ (.If t x y pos) o σ':=by
  intro fd W s Q E ok R bk
  refine wpAny_If (h fd W s _ E ok R fun W1 v1 g1 t1 l1 R1 V1=>?_)
  subst V1
  simp only [if_true]
  exact h2 fd W1 _ Q E ok R1 fun W2 v2 g2 t2 l2 R2 V2=>bk W2 v2 g2 t2 (l1.trans l2) R2 V2
theorem Za2 {t:Expr} {x y:List Stmt} {pos:Pos} {o:Out} (h:Ts C k fi σ t false σ₁) (h2:Ex C k fi σ₁ y o σ'):Ex1 C k fi σ (.If t x y pos) o σ':=by
  intro fd W s Q E ok R bk
  refine wpAny_If (h fd W s _ E ok R fun W1 v1 g1 t1 l1 R1 V1=>?_)
  subst V1
  simp only [Bool.false_eq_true,if_false]
  exact h2 fd W1 _ Q E ok R1 fun W2 v2 g2 t2 l2 R2 V2=>bk W2 v2 g2 t2 (l1.trans l2) R2 V2
theorem Zad {e:Expr} {pos:Pos} {v:PV} (h:Ev C k fi σ e v σ') (hs:∀ env,swapsWith e none pos.line env = pure false:=by intro _; rfl):Ex1 C k fi σ (.Expr e pos) .next σ':=by
  intro fd W s Q E ok R bk
  have hi:interactive (fd.ev fi) = false:=by simp [interactive,Env.blockKind,ZaS ok]
  exact wpAny_Expr_any (h fd W s _ E ok R fun W1 v1 g1 t1 l1 R1 V1=>bk W1 _ g1 t1 l1 R1 .next) hi (hs _)
theorem ZaU {x:Str} {p:PV} {v:Value} {fd:Fd} {W:Wd} {s:Shared} {Q:Unit -> Shared -> Prop} {E:Value -> Shared -> Prop} (ok:OkF C k fi fd) (R:Rl fd W σ s.heap) (V:VRel W p v) (hcm:fi.cmp = none) (hk:(kd fi).lookup x = some .local)
    (bk:Bk fd W { σ with loc:=stl x p σ.loc } s (fun _ _=>True) Q):wpAny C.M (fd.A fi) (storeName (fd.ev fi) x v) Q E s:=by
  refine e1a1 R.fr fun m F lc=>?_
  rw [Zar hcm]
  rw [Zdl hcm] at hk
  refine wpAny_storeName_local hk F.ns (fun h' hn hs=>?_) (by show (fi.cs.kind == .class || (fi.cs.kind == .module && fd.L != mainGlobals)) = false; rw [ok.kf]; rfl)
  have R':=R.setLoc V (x:=x) (h':=h') (fun m' F'=>by
    refine ⟨?_,(F.set hn hs).keep,F'.above⟩
    have e:m' = m:=by
      refine e3a3 F'.ns fun o es ep a1 a2 a3 a4=>?_
      refine e3a3 F.ns fun o' es' ep' b1 b2 b3 b4=>?_
      rw [a1] at b1; obtain rfl:=Option.some.inj b1
      rw [a2] at b2; cases b2
      funext y; rw [<- a4,<- b4]
    rw [e]; exact hn) hs
  exact bk W () h' _ (.refl _) R' trivial
theorem Zin {x:Str} {e:Expr} {p pos:Pos} {v:PV} (h:Ev C k fi σ e v σ₁) (hcm:fi.cmp = none:=by rfl) (hk:(kd fi).lookup x = some .local:=by rfl) (hs:∀ env,swapsWith e (some (.Name x p)) pos.line env = pure false:=by intro _; rfl) :
    Ex1 C k fi σ (.Assign [.Name x p] e pos) .next { σ₁ with loc:=stl x v σ₁.loc }:=by
  intro fd W s Q E ok R bk
  refine wpAny_Assign_Name (h fd W s _ E ok R fun W1 v1 g1 t1 l1 R1 V1=>ZaU ok R1 V1 hcm hk fun W2 _ g2 t2 l2 R2 _=>?_) (hs _)
  exact bk W2 _ g2 t2 (l1.trans l2) R2 .next
theorem ZcS {x:Str} {p:PV} {v:Value} {i:Nat} {u:Option PV} {fd:Fd} {W:Wd} {s:Shared} {Q:Unit -> Shared -> Prop} {E:Value -> Shared -> Prop} (ok:OkF C k fi fd) (R:Rl fd W σ s.heap) (V:VRel W p v) (hc:lkN x σ.cm = some i) (hv:σ.H[i]? = some (.cell u)) (hcm:fi.cmp = none) (hk:(kd fi).lookup x = some .cell)
    (bk:Bk fd W { σ with H:=σ.H.set i (.cell (some p)) } s (fun _ _=>True) Q):wpAny C.M (fd.A fi) (storeName (fd.ev fi) x v) Q E s:=by
  refine e1a1 (R.cel x i hc) fun a h1 h2=>?_
  refine e1a3 (R.obj i a _ h2 hv) fun o h3 h4 h5 h6=>?_
  have hic:∃ u',s.heap.IsCell a u':=by
    cases h6 with
    | cellN e=>exact ⟨_,o,h3,e⟩
    | cell e _=>exact ⟨_,o,h3,e⟩
  refine e1a0 hic fun u' hic=>?_
  rw [Zar hcm]
  rw [Zdl hcm] at hk
  refine wpAny_storeName_cell ok.kf hk h1 hic fun h' hv' hs=>?_
  refine e1a1 hv' fun o' e1 e2=>?_
  exact bk W () h' _ (.refl _) (R.update h2 hv (by intro e; cases e) hs e1 (.cell e2 V)) trivial
theorem ZgD {x:Str} {e:Expr} {p pos:Pos} {v:PV} {i:Nat} {u:Option PV} (h:Ev C k fi σ e v σ₁) (hc:lkN x σ₁.cm = some i) (hv:σ₁.H[i]? = some (.cell u)) (hcm:fi.cmp = none:=by rfl) (hk:(kd fi).lookup x = some .cell:=by rfl) (hs:∀ env,swapsWith e (some (.Name x p)) pos.line env = pure false:=by intro _; rfl) :
    Ex1 C k fi σ (.Assign [.Name x p] e pos) .next { σ₁ with H:=σ₁.H.set i (.cell (some v)) }:=by
  intro fd W s Q E ok R bk
  refine wpAny_Assign_Name (h fd W s _ E ok R fun W1 v1 g1 t1 l1 R1 V1=>ZcS ok R1 V1 hc hv hcm hk fun W2 _ g2 t2 l2 R2 _=>?_) (hs _)
  exact bk W2 _ g2 t2 (l1.trans l2) R2 .next
theorem Zc7 {o e:Expr} {n:Str} {p pos:Pos} {v a:PV} (h:Ev C k fi σ e v σ₁) (h2:Ev C k fi σ₁ o a σ₂) (h3:SaJ C k fi σ₂ a n v σ') (hs:∀ env,swapsWith e (some (o.Attribute n p)) pos.line env = pure false:=by intro _; rfl) :
    Ex1 C k fi σ (.Assign [o.Attribute n p] e pos) .next σ':=by
  intro fd W s Q E ok R bk
  refine plainObj_wpAny_Assign_Attribute (h fd W s _ E ok R fun W1 v1 g1 t1 l1 R1 V1=>h2 fd W1 _ _ E ok R1 fun W2 v2 g2 t2 l2 R2 V2=>h3 fd W2 _ _ _ _ E ok R2 V2 (VRel.mono l2 V1) fun W3 _ g3 t3 l3 R3 _=>?_) (hs _)
  exact bk W3 _ g3 t3 (l1.trans (l2.trans l3)) R3 .next
theorem Zc6 {o i e:Expr} {p pos:Pos} {v a j:PV} (h:Ev C k fi σ e v σ₁) (h2:Ev C k fi σ₁ o a σ₂) (h3:Ev C k fi σ₂ i j σ₃) (h4:SiJ C k fi σ₃ a j v σ') (hs:∀ env,swapsWith e (some (o.Subscript i p)) pos.line env = pure false:=by intro _; rfl) :
    Ex1 C k fi σ (.Assign [o.Subscript i p] e pos) .next σ':=by
  intro fd W s Q E ok R bk
  refine wpAny_Assign_Subscript (h fd W s _ E ok R fun W1 v1 g1 t1 l1 R1 V1=>h2 fd W1 _ _ E ok R1 fun W2 v2 g2 t2 l2 R2 V2=>h3 fd W2 _ _ E ok R2 fun W3 v3 g3 t3 l3 R3 V3=>h4 fd W3 _ _ _ _ _ E ok R3 (VRel.mono l3 V2) V3 (VRel.mono (l2.trans l3) V1) fun W4 _ g4 t4 l4 R4 _=>?_) (hs _)
  exact bk W4 _ g4 t4 (l1.trans (l2.trans (l3.trans l4))) R4 .next
noncomputable def callable (K:Frag) (f:Value):Prop:=keepIn K f = true ∨ keeperOf f = pure .machine
theorem callable.keeps {M:Model} {K:Frag} {f:Value} (h:callable K f) (hp:Heap) (X:K.In hp):∃ k,(k = Keeper.frame ∨ k = Keeper.machine ∨ k = Keeper.boundFrame) /\ Looks M hp (keeperOf f) k:=by
  rcases h with e | e
  . exact keeps_K e hp X
  . exact ⟨.machine,.inr (.inl rfl),Looks.of_pure e⟩
theorem Zfp {e:Expr} {rest:List Expr} {env:Env} (h:(starEach (e :: rest) env).any (·.1) = false):starEach (e :: rest) env = (false,eval e env) :: starEach rest env:=by
  cases e with
  | Starred a b=>exact nomatch (show true = false from h)
  | _=>rfl
theorem ZhN {f:Value} {first args:List PV} {es:List Expr} {pos:Pos} {r:PV} {H':List AObj} {fd:Fd} {W:Wd} {s:Shared} {vf:List Value} {Q E:Value -> Shared -> Prop} (hc:callable C.K f) (ok:OkF C k fi fd) (R:Rl fd W σ s.heap) (V:VRels W first vf)
    (h2:Evs C k fi σ es pos args σ₁) (h3:CallJ C k f (first ++ args) σ₁.H r H') (hst:∀ env,(starEach es env).any (·.1) = false) (bk:Bk fd W { σ₁ with H:=H' } s (fun W x=>VRel W r x) Q) :
    wpAny C.M (fd.A fi) (callWith pos f vf (backTo pos (starEach es (fd.ev fi))) []) Q E s:=by
  have hpl:((backTo pos (starEach es (fd.ev fi))).any (·.1) || ([]:List (Option Str × Sem Value)).any (·.1.isNone)) = false:=by
    simp only [List.any_nil,Bool.or_false]
    have:=hst (fd.ev fi)
    simp only [backTo,List.any_map]
    rw [List.any_eq_false] at this ⊢
    intro x hx
    exact this x hx
  refine callWith_of (P:=fun h=>C.K.In h) hpl (fun h X=>hc.keeps h X) ?_
  have fin:∀ W1 (v1:List Value) g1 t1,W.le W1 -> Rl fd W1 σ₁ g1 -> VRels W1 args v1 ->
      C.K.In g1 /\ wpAny C.M (fd.A fi) (call f (vf ++ v1)) Q E { s with heap:=g1,toks:=t1 }:=fun W1 v1 g1 t1 l1 R1 V1=>by
    refine e1a1 R1.fr fun m F _=>?_
    refine ⟨ok.X.keeps F.keep,h3 fi σ₁.loc σ₁.cm σ₁.ci σ₁.cc fd W1 _ _ Q E ok R1 (VRels.append (VRels.mono l1 V) V1) fun W2 v2 g2 t2 l2 R2 V2=>?_⟩
    exact bk W2 v2 g2 t2 (l1.trans l2) R2 V2
  cases es with
  | nil=>
    refine evalArgs_nil3 ?_
    have z:=h2 fd W s (fun v1 s1=>v1 = [] -> C.K.In s1.heap /\ wpAny C.M (fd.A fi) (call f (vf ++ v1)) Q E s1) E ok R (fun W1 v1 g1 t1 l1 R1 V1 _=>fin W1 v1 g1 t1 l1 R1 V1)
    have z':wpAny C.M (fd.A fi) (pure ([]:List Value)) (fun v1 s1=>v1 = [] -> C.K.In s1.heap /\ wpAny C.M (fd.A fi) (call f (vf ++ v1)) Q E s1) E s:=z
    have R':σ₁ = σ ∨ True:=.inr trivial
    refine ⟨?_,?_⟩
    . refine e1a1 R.fr fun m F _=>?_; exact ok.X.keeps F.keep
    . intro Γ p hΓ
      exact (z' Γ p hΓ rfl).2 Γ p hΓ
  | cons e rest=>
    have he:=Zfp (hst (fd.ev fi))
    have z:wpAny C.M (fd.A fi) (spliced (backTo pos (starEach (e :: rest) (fd.ev fi)))) (fun v1 s1=>C.K.In s1.heap /\ wpAny C.M (fd.A fi) (call f (vf ++ v1)) Q E s1) E s:=h2 fd W s (fun v1 s1=>C.K.In s1.heap /\ wpAny C.M (fd.A fi) (call f (vf ++ v1)) Q E s1) E ok R fin
    rw [he] at z ⊢
    exact evalArgs_plain z
theorem Ziy {f:Expr} {fv:Value} {args:List PV} {es:List Expr} {pos:Pos} {r:PV} {H':List AObj} (h1:Ev C k fi σ f (.con fv) σ₁) (hc:callable C.K fv) (h2:Evs C k fi σ₁ es pos args σ₂) (h3:CallJ C k fv args σ₂.H r H')
    (hst:∀ env,(starEach es env).any (·.1) = false:=by intro _; rfl)
    (he:∀ env,eval (f.Call es [] pos) env = (do let x <- eval f env; callWith pos x [] (backTo pos (starEach es env)) (backToKw pos (keywordEach [] env))):=by intro _; rfl):Ev C k fi σ (f.Call es [] pos) r { σ₂ with H:=H' }:=by
  intro fd W s Q E ok R bk
  refine Call_ (h1 fd W s _ E ok R fun W1 v1 g1 t1 l1 R1 V1=>?_) (he _)
  apply VRel.con_e V1
  exact ZhN hc ok R1 .nil h2 h3 hst fun W2 v2 g2 t2 l2 R2 V2=>bk W2 v2 g2 t2 (l1.trans l2) R2 V2
theorem Zir {o:Expr} {n:Str} {fv:Value} {a:PV} {first args:List PV} {es:List Expr} {apos pos:Pos} {r:PV} {H':List AObj} (h1:Ev C k fi σ o a σ₁) (hm:MeJ C k fi σ₁ a n fv first) (hc:callable C.K fv) (h2:Evs C k fi σ₁ es pos args σ₂) (h3:CallJ C k fv (first ++ args) σ₂.H r H') (pl:Env -> Sem Bool)
    (hst:∀ env,(starEach es env).any (·.1) = false:=by intro _; rfl)
    (he:∀ env,eval ((o.Attribute n apos).Call es [] pos) env = (do
      let ov <- eval o env
      standAt apos.atName
      let (f,first) <- holding [ov] (getMethod ov n (pl env))
      callWith pos f first (backTo pos (starEach es env)) []):=by intro _; rfl):Ev C k fi σ ((o.Attribute n apos).Call es [] pos) r { σ₂ with H:=H' }:=by
  intro fd W s Q E ok R bk
  refine MethodCall_ (pl:=pl (fd.ev fi)) (h1 fd W s _ E ok R fun W1 v1 g1 t1 l1 R1 V1=>hm fd W1 _ _ _ _ E ok R1 V1 fun W2 x2 g2 t2 l2 R2 V2=>?_) (he _)
  refine e0a1 V2 fun V2 V3=>?_
  rw [V2]
  exact ZhN hc ok R2 V3 h2 h3 hst fun W3 v3 g3 t3 l3 R3 V4=>bk W3 v3 g3 t3 (l1.trans (l2.trans l3)) R3 V4
end
section
mutual
noncomputable def PV.lim (n:Nat):PV -> Bool
  | .ref i=>decide (i < n)
  | .tup xs=>PV.lims n xs
  | .lst xs=>PV.lims n xs
  | .obj _ es=>PV.limA n es
  | .slc a b c=>PV.lim n a && PV.lim n b && PV.lim n c
  | .none=>true
  | .bool _=>true
  | .int _=>true
  | .str _=>true
  | .con _=>true
  | .rng _ _ _=>true
  | .any=>true
noncomputable def PV.lims (n:Nat):List PV -> Bool
  | []=>true
  | x :: r=>PV.lim n x && PV.lims n r
noncomputable def PV.limA (n:Nat):List (Str × PV) -> Bool
  | []=>true
  | (_,x) :: r=>PV.lim n x && PV.limA n r
end
noncomputable def PV.limD (n:Nat):List (Int × PV) -> Bool
  | []=>true
  | (_,x) :: r=>PV.lim n x && PV.limD n r
noncomputable def AObj.lim (n:Nat):AObj -> Bool
  | .list xs=>PV.lims n xs
  | .dict es=>PV.limD n es
  | .inst _ d=>decide (d < n)
  | .attrs es=>PV.limA n es
  | .cell none=>true
  | .cell (some v)=>PV.lim n v
  | .dead=>true
  | .raw _=>true
  | .ns es=>PV.limA n es
  | .fix a _=>AObj.lim n a
  | .zO k=>decide (k + 2 < n)
  | .zT=>true
  | .zi xs=>PV.lims n xs
noncomputable def Wd.cut (W:Wd) (n:Nat):Wd:={ W with φ:=W.φ.take n }
section
variable {W:Wd} {n:Nat}
theorem cut3:(∀ {p v},VRel W p v -> PV.lim n p = true -> VRel (W.cut n) p v) /\ (∀ {ps vs},VRels W ps vs -> PV.lims n ps = true -> VRels (W.cut n) ps vs) /\ (∀ {es ds},ARel W es ds -> PV.limA n es = true -> ARel (W.cut n) es ds):=
  VRel.ind3 (P1:=fun p v=>PV.lim n p = true -> VRel (W.cut n) p v) (P2:=fun ps vs=>PV.lims n ps = true -> VRels (W.cut n) ps vs) (P3:=fun es ds=>PV.limA n es = true -> ARel (W.cut n) es ds) (fun _=>.none) (fun b _=>.bool b) (fun i t _=>.int i t) (fun i t _=>.str i t) (fun {i _} e hb=>.ref (by
      have:i < n:=of_decide_eq_true hb
      show (W.φ.take n)[i]? = some _
      rw [List.getElem?_take_of_lt this]; exact e)) (fun v _=>.con v)
    (fun z c d _ r hb=>.tup z c d (r hb)) (fun z _ r hb=>.lst z (r hb)) (fun z z' _ r hb=>.obj z z' (r hb))
    (fun z _ _ _ a b c hb=>.slc z (a (an (an hb).1).1) (b (an (an hb).1).2) (c (an hb).2)) (fun z _=>.rng z) (fun v _=>.any v) (fun _=>.nil) (fun _ _ a r hb=>.cons (a (an hb).1) (r (an hb).2)) (fun _=>.nil) (fun _ _ a r hb=>.cons (a (an hb).1) (r (an hb).2))
theorem VRel.cut {p:PV} {v:Value} (h:VRel W p v) (hb:PV.lim n p = true):VRel (W.cut n) p v:=cut3.1 h hb
theorem VRels.cut {p:List PV} {v:List Value} (h:VRels W p v) (hb:PV.lims n p = true):VRels (W.cut n) p v:=cut3.2.1 h hb
theorem ARel.cut {p:List (Str × PV)} {v:List DictEntry} (h:ARel W p v) (hb:PV.limA n p = true):ARel (W.cut n) p v:=cut3.2.2 h hb
theorem DRel.cut {p:List (Int × PV)} {v:List (Int × Value)} (h:DRel W p v) (hb:PV.limD n p = true):DRel (W.cut n) p v:=by
  induction h with
  | nil=>exact .nil
  | cons a r ih=>
    exact .cons (VRel.cut a (an hb).1) (ih (an hb).2)
theorem LRel.cut {p:List (Str × PV)} {v:List (Str × Value)} (h:LRel W p v) (hb:PV.limA n p = true):LRel (W.cut n) p v:=by
  induction h with
  | nil=>exact .nil
  | cons a r ih=>
    exact .cons (VRel.cut a (an hb).1) (ih (an hb).2)
theorem Zc3 {i:Nat} {a:Addr} (e:W.φ[i]? = some a) (h:i < n):(W.cut n).φ[i]? = some a:=by
  show (W.φ.take n)[i]? = some a
  rw [List.getElem?_take_of_lt h]; exact e
theorem ORel.cut {p:AObj} {o:Obj} (h:ORel W p o) (hb:AObj.lim n p = true):ORel (W.cut n) p o:=by
  induction h with
  | list r=>exact .list (VRels.cut r hb)
  | dict d r=>exact .dict d (DRel.cut r hb)
  | @inst C d dx e=>
    have:d < n:=of_decide_eq_true hb
    exact .inst (Zc3 e this)
  | attrs r=>exact .attrs (ARel.cut r hb)
  | cellN e=>exact .cellN e
  | cell e r=>exact .cell e (VRel.cut r hb)
  | dead=>exact .dead
  | raw o=>exact .raw o
  | ns a r e=>exact .ns a (LRel.cut r hb) e
  | fix _ ih=>exact .fix (ih hb)
  | @zO k' TI TO i1 i2 a b c d=>
    have hb:k' + 2 < n:=of_decide_eq_true hb
    exact .zO (Zc3 a (by lia)) (Zc3 b (by lia)) (Zc3 c hb) d
  | zT=>exact .zT
  | zi z r c d=>exact .zi z (VRels.cut r hb) c d
end
section
variable {W:Wd}
theorem lim3:(∀ {p v},VRel W p v -> PV.lim W.φ.length p = true) /\ (∀ {ps vs},VRels W ps vs -> PV.lims W.φ.length ps = true) /\ (∀ {es ds},ARel W es ds -> PV.limA W.φ.length es = true):=
  VRel.ind3 (P1:=fun p _=>PV.lim W.φ.length p = true) (P2:=fun p _=>PV.lims W.φ.length p = true) (P3:=fun p _=>PV.limA W.φ.length p = true) rfl (fun _=>rfl) (fun _ _=>rfl) (fun _ _=>rfl) (fun e=>decide_eq_true (List.getElem?_eq_some_iff.mp e).1) (fun _=>rfl)
    (fun _ _ _ _ r=>r) (fun _ _ r=>r) (fun _ _ _ r=>r) (fun _ _ _ _ a b c=>nd (nd a b) c) (fun _=>rfl) (fun _=>rfl)
    rfl (fun _ _ a r=>nd a r) rfl (fun _ _ a r=>nd a r)
theorem VRel.lim {p:PV} {v:Value} (h:VRel W p v):PV.lim W.φ.length p = true:=lim3.1 h
theorem VRels.lim {p:List PV} {v:List Value} (h:VRels W p v):PV.lims W.φ.length p = true:=lim3.2.1 h
theorem ARel.lim {p:List (Str × PV)} {v:List DictEntry} (h:ARel W p v):PV.limA W.φ.length p = true:=lim3.2.2 h
theorem DRel.lim {p:List (Int × PV)} {v:List (Int × Value)} (h:DRel W p v):PV.limD W.φ.length p = true:=by
  induction h with
  | nil=>rfl
  | cons a r ih=>exact nd (VRel.lim a) ih
theorem LRel.lim {p:List (Str × PV)} {v:List (Str × Value)} (h:LRel W p v):PV.limA W.φ.length p = true:=by
  induction h with
  | nil=>rfl
  | cons a r ih=>exact nd (VRel.lim a) ih
theorem ORel.lim {p:AObj} {o:Obj} (h:ORel W p o):AObj.lim W.φ.length p = true:=by
  induction h with
  | list r=>exact VRels.lim r
  | dict d r=>exact DRel.lim r
  | inst e=>exact decide_eq_true (List.getElem?_eq_some_iff.mp e).1
  | attrs r=>exact ARel.lim r
  | cellN e=>rfl
  | cell e r=>exact VRel.lim r
  | dead=>rfl
  | raw o=>rfl
  | ns a r e=>exact LRel.lim r
  | fix _ ih=>exact ih
  | zO a b c d=>exact decide_eq_true (List.getElem?_eq_some_iff.mp c).1
  | zT=>rfl
  | zi z r c d=>exact VRels.lim r
end
theorem RelF.cut {fd:Fd} {W:Wd} {σ:St} {h:Heap} (R:RelF fd W σ h) {n:Nat} {H':List AObj} {loc':List (Str × PV)} {cm':List (Str × Nat)} {ci':Option Nat} {cc':List (Str × Nat)}
    (hH:σ.H.take n = H') (hn:H'.length = n) (hob:∀ (i:Nat) o,H'[i]? = some o -> AObj.lim n o = true) (hl:∀ x v,lk x loc' = some v -> lk x σ.loc = some v /\ PV.lim n v = true) (hc:∀ x i,lkN x cm' = some i -> lkN x σ.cm = some i /\ i < n)
    (hci:∀ i,ci' = some i -> σ.ci = some i /\ i < n) (hcc:∀ x i,lkN x cc' = some i -> lkN x σ.cc = some i /\ i < n) :
    RelF fd (W.cut n) ⟨loc',cm',H',ci',cc'⟩ h:=by
  refine e1a1 R.fr fun m F lc=>?_
  have hle:n <= σ.H.length:=by subst hH; simp only [List.length_take] at hn; lia
  have tk:∀ i a,(W.cut n).φ[i]? = some a -> W.φ[i]? = some a /\ i < n:=fun i a e=>by
    have e:(W.φ.take n)[i]? = some a:=e
    have hi:i < n:=by
      have:=(List.getElem?_eq_some_iff.mp e).1
      simp only [List.length_take] at this; lia
    rw [List.getElem?_take_of_lt hi] at e; exact ⟨e,hi⟩
  refine ⟨⟨m,F,fun x v e=>?_⟩,?_,?_,fun i a o e1 e2=>?_,fun p e=>?_,fun x i e=>?_,fun i e=>?_,fun x i e=>?_,fun i a o e1 e2 q=>?_⟩
  . refine e0a1 (hl x v e) fun e1 e2=>?_
    refine e1a1 (lc x v e1) fun v' h1 h2=>?_
    exact ⟨v',h1,VRel.cut h2 e2⟩
  . show (W.φ.take n).length = H'.length
    rw [List.length_take,R.len,hn]; lia
  . exact R.nd.sublist (List.take_sublist _ _)
  . refine e0a1 (tk i a e1) fun e1 hi=>?_
    have e2:H'[i]? = some o:=e2
    have e3:=e2
    rw [<- hH,List.getElem?_take_of_lt hi] at e3
    refine e1a3 (R.obj i a o e1 e3) fun o' h1 h2 h3 h4=>?_
    exact ⟨o',h1,h2,h3,ORel.cut h4 (hob i o e2)⟩
  . refine e0a3 (R.frz p e) fun h1 h2 hb h3=>?_
    refine ⟨h1,h2,hb,fun i e1=>?_⟩
    refine e0a1 (tk i _ e1) fun e1 hi=>?_
    show H'[i]? = some .dead
    have e4:=h3 i e1
    rw [<- hH,List.getElem?_take_of_lt hi]; exact e4
  . refine e0a1 (hc x i e) fun e1 e2=>?_
    refine e1a1 (R.cel x i e1) fun a h1 h2=>?_
    exact ⟨a,h1,by show (W.φ.take n)[i]? = some a; rw [List.getElem?_take_of_lt e2]; exact h2⟩
  . refine e0a1 (hci i e) fun e1 e2=>?_
    exact Zc3 (R.cen i e1) e2
  . refine e0a1 (hcc x i e) fun e1 e2=>?_
    refine e1a1 (R.cec x i e1) fun a h1 h2=>?_
    exact ⟨a,h1,Zc3 h2 e2⟩
  . refine e0a1 (tk i a e1) fun e1 hi=>?_
    have e2:H'[i]? = some o:=e2
    rw [<- hH,List.getElem?_take_of_lt hi] at e2
    exact R.dn i a o e1 e2 q
theorem Wd.le_cut {W W':Wd} (l:W.le W') {n:Nat} (hn:W.φ.length <= n):W.le (W'.cut n):=
  ⟨fun i a e=>by
    have hi:i < n:=Nat.lt_of_lt_of_le (List.getElem?_eq_some_iff.mp e).1 hn
    show (W'.φ.take n)[i]? = some a
    rw [List.getElem?_take_of_lt hi]; exact l.φ i a e,l.Z⟩
noncomputable def LimH (n:Nat) (H:List AObj):Prop:=∀ o ∈ H,AObj.lim n o = true
noncomputable def LimL (n:Nat) (loc:List (Str × PV)):Prop:=∀ x v,lk x loc = some v -> PV.lim n v = true
theorem LimH.get {n:Nat} {H:List AObj} (h:LimH n H):∀ (i:Nat) o,H[i]? = some o -> AObj.lim n o = true:=fun i o e=>h o (List.mem_of_getElem? e)
theorem LimH.of {n:Nat} {H:List AObj} (h:∀ (i:Nat) o,H[i]? = some o -> AObj.lim n o = true):LimH n H:=fun o ho=>by
  refine e1a0 (List.mem_iff_getElem?.mp ho) fun i hi=>?_
  exact h i o hi
theorem LimL.nil {n:Nat}:LimL n []:=fun _ _ e=>by exact nse e
theorem LimL.cons {n:Nat} {x:Str} {v:PV} {r:List (Str × PV)} (h:PV.lim n v = true) (hr:LimL n r):LimL n ((x,v) :: r):=fun y u e=>by
  rw [lk_c] at e
  by_cases q:y = x
  . rw [if_pos q] at e; obtain rfl:=Option.some.inj e; exact h
  . rw [if_neg q] at e; exact hr y u e
theorem LimH.nil {n:Nat}:LimH n []:=fun _ h=>by cases h
theorem LimH.cons {n:Nat} {o:AObj} {H:List AObj} (h:AObj.lim n o = true) (hr:LimH n H):LimH n (o :: H):=fun p hp=>by
  rcases List.mem_cons.mp hp with rfl | hp
  . exact h
  . exact hr p hp
theorem LimH.append {n:Nat} {A B:List AObj} (h:LimH n A) (hr:LimH n B):LimH n (A ++ B):=fun p hp=>(List.mem_append.mp hp).elim (h p) (hr p)
theorem LimH.set {n:Nat} {H:List AObj} (h:LimH n H) {i:Nat} {o:AObj} (ho:AObj.lim n o = true):LimH n (H.set i o):=fun p hp=>(List.mem_or_eq_of_mem_set hp).elim (h p) fun e=>e ▸ ho
section
variable {n n':Nat} (hn:n <= n')
include hn
theorem PV.lim_le (p:PV):PV.lim n p = true -> PV.lim n' p = true:=
  PV.rec (motive_1:=fun p=>PV.lim n p = true -> PV.lim n' p = true) (motive_2:=fun l=>PV.lims n l = true -> PV.lims n' l = true) (motive_3:=fun l=>PV.limA n l = true -> PV.limA n' l = true) (motive_4:=fun q=>PV.lim n q.2 = true -> PV.lim n' q.2 = true)
    id (fun _=>id) (fun _=>id) (fun _=>id) (fun _ h=>decide_eq_true (Nat.lt_of_lt_of_le (of_decide_eq_true h) hn)) (fun _=>id) (fun _ r=>r) (fun _ r=>r) (fun _ _ r=>r) (fun _ _ _ a b c h=>nd (nd (a (an (an h).1).1) (b (an (an h).1).2)) (c (an h).2)) (fun _ _ _=>id) id
    id (fun _ _ a r h=>nd (a (an h).1) (r (an h).2)) id (fun _ _ a r h=>nd (a (an h).1) (r (an h).2)) (fun _ _ r=>r) p
theorem PV.lims_le (p:List PV):PV.lims n p = true -> PV.lims n' p = true:=by
  induction p with
  | nil=>exact id
  | cons a r ih=>exact fun h=>nd (PV.lim_le hn a (an h).1) (ih (an h).2)
theorem PV.limA_le (p:List (Str × PV)):PV.limA n p = true -> PV.limA n' p = true:=by
  induction p with
  | nil=>exact id
  | cons a r ih=>exact fun h=>nd (PV.lim_le hn a.2 (an h).1) (ih (an h).2)
theorem PV.limD_le (p:List (Int × PV)):PV.limD n p = true -> PV.limD n' p = true:=by
  induction p with
  | nil=>exact id
  | cons a r ih=>exact fun h=>nd (PV.lim_le hn a.2 (an h).1) (ih (an h).2)
theorem AObj.lim_le (o:AObj):AObj.lim n o = true -> AObj.lim n' o = true:=by
  induction o with
  | list xs=>exact PV.lims_le hn xs
  | dict xs=>exact PV.limD_le hn xs
  | inst _ d=>exact fun h=>decide_eq_true (Nat.lt_of_lt_of_le (of_decide_eq_true h) hn)
  | attrs xs=>exact PV.limA_le hn xs
  | cell v=>cases v with
    | none=>exact id
    | some v=>exact PV.lim_le hn v
  | dead=>exact id
  | raw _=>exact id
  | ns xs=>exact PV.limA_le hn xs
  | fix a _ ih=>exact ih
  | zO k=>exact fun h=>decide_eq_true (Nat.lt_of_lt_of_le (of_decide_eq_true h) hn)
  | zT=>exact id
  | zi xs=>exact PV.lims_le hn xs
omit hn in
theorem limr {i:Nat} (h:i < n'):PV.lim n' (.ref i) = true:=decide_eq_true h
omit hn in
theorem limI {C:Addr} {i:Nat} (h:i < n'):AObj.lim n' (.inst C i) = true:=decide_eq_true h
section
omit hn
variable {x y z u w:Str} {i j m:Nat} {p f:PV} {r:List (Str × PV)}
theorem limC (h:i < n'):AObj.lim n' (.cell (some (.ref i))) = true:=limr h
theorem Zln (h:i < n'):AObj.lim n' (.attrs [(x,.ref i)]) = true:=show (PV.lim n' (.ref i) && true) = true from nd (limr h) rfl
theorem Zlm (h:i < n') (k:j < n'):AObj.lim n' (.attrs [(x,.lst []),(y,.ref i),(z,.ref j)]) = true:=show (PV.lim n' (.ref i) && (PV.lim n' (.ref j) && true)) = true from nd (limr h) (nd (limr k) rfl)
theorem Znk (hp:PV.lim n' p = true) (h:i < n') (k:j < n') (hf:PV.lim n' f = true) (l:m < n') (hr:PV.limA n' r = true):AObj.lim n' (.attrs ((x,p) :: (y,.ref i) :: (z,.ref j) :: (u,f) :: (w,.ref m) :: r)) = true:=
  show (PV.lim n' p && (PV.lim n' (.ref i) && (PV.lim n' (.ref j) && (PV.lim n' f && (PV.lim n' (.ref m) && PV.limA n' r))))) = true from nd hp (nd (limr h) (nd (limr k) (nd hf (nd (limr l) hr))))
end
theorem LimH.le {H:List AObj} (h:LimH n H):LimH n' H:=fun o ho=>AObj.lim_le hn o (h o ho)
end
inductive Rets:Out -> PV -> Prop
  | next:Rets .next .none
  | ret (v:PV):Rets (.ret v) v
noncomputable abbrev Fd.inner (fd:Fd) (fi:Fi) (h:Heap) (as:List Addr) (cl:List (Str × Addr)):Fd:=
  { b:=hideAll h as,base:=fd.base,L:=h.objs.size,cl:=cl,outer:=fd.env fi :: fd.outer,A₀:=fd.A fi,hd:=fd.hd,dp:=fd.dp + 1,un:=fd.un + 3,gd:=fd.gd }
section
variable {C:Cx} {k:Nat} {fi:Fi} {fd:Fd} {W:Wd} {σ:St} {s:Shared}
theorem Zdm (ok:OkF C (k + 1) fi fd) (R:Rl fd W σ s.heap) {m:Str -> Option Value} (F:Fr fd.b fd.L s.heap m) {fi':Fi} (hk:fi'.cs.kind = .function) (hkc:fi'.cmp = none) (cl:List (Str × Addr)) :
    OkF C k fi' (fd.inner fi s.heap W.adr cl) /\ Fr fd.b fd.L (hideAll s.heap W.adr) m /\ fd.b.StaysIn (hideAll s.heap W.adr):=by
  have G:=groundX (R:=fun _ _=>True) (A:=fd.A fi) ok.B F R.news rfl rfl ok.kf
  rw [Wd.led_map] at G
  refine e0a3 G fun FG BG st _=>?_
  refine ⟨⟨BG,ok.X.keeps st,ok.T.keeps st,hk,(fun sc e=>by rw [hkc] at e; exact nse e),?_,?_,?_,?_⟩,FG,st⟩
  . rcases ok.hn with e | e
    . exact .inl e
    . exact absurd e (Nat.succ_ne_zero _)
  . have:=ok.dp; show fd.dp + 1 + 10 * k < 990; lia
  . have:=ok.un; show fd.un + 3 + 100 * k < 9000; lia
  . exact .inl (by rcases ok.ho with e | e <;> lia)
theorem Zc0 (ok:OkF C (k + 1) fi fd) (R:Rl fd W σ s.heap) {m:Str -> Option Value} (F:Fr fd.b fd.L s.heap m) (lc:∀ x v,lk x σ.loc = some v -> ∃ v',m x = some v' /\ VRel W v v') {cl:List (Str × Addr)} {fi':Fi} {W':Wd} {loc':List (Str × PV)} {cm':List (Str × Nat)} {ci':Option Nat} {cc':List (Str × Nat)} {H':List AObj} {h':Heap}
    (R':Rl (fd.inner fi s.heap W.adr cl) W' ⟨loc',cm',H',ci',cc'⟩ h') (l:W.le W') (hk:fi'.cs.kind = .function) (hkc:fi'.cmp = none):Rl fd W' ⟨σ.loc,σ.cm,H',σ.ci,σ.cc⟩ h':=by
  refine e0a2 (Zdm ok R F (fi':=fi') hk hkc cl) fun _ FG st=>?_
  refine e1a1 R'.fr fun m' F' _=>?_
  have hL:∃ o,(hideAll s.heap W.adr).get? fd.L = some o:=by
    refine e3a1 FG.ns fun o _ _ e _=>?_
    exact ⟨o,e⟩
  refine RelF.carry R' (fd':=fd) (m':=m) ⟨FG.ns.keeps F'.keep,fun a o e=>F'.keep a o (st a o e),F.above⟩ (fun x v e=>?_) (fun p hp=>?_) (fun x i e=>?_) (fun i e=>l.φ _ _ (R.cen i e)) (fun x i e=>by refine e1a1 (R.cec x i e) fun a h1 h2=>?_; exact ⟨a,h1,l.φ _ _ h2⟩)
  . refine e1a1 (lc x v e) fun v' h1 h2=>?_
    exact ⟨v',h1,VRel.mono l h2⟩
  . refine e0a2 (R'.news p hp) fun h1 h2 h3=>?_
    have h3:(hideAll s.heap W.adr).get? p.1 = none:=h3
    refine ⟨h1,fun q=>?_,?_⟩
    . refine e1a0 hL fun o e=>?_
      rw [q,e] at h3; exact nes h3
    . cases q:fd.b.get? p.1 with
      | none=>rfl
      | some o=>rw [st _ o q] at h3; exact nes h3
  . refine e1a1 (R.cel x i e) fun a h1 h2=>?_
    exact ⟨a,h1,l.φ _ _ h2⟩
theorem ZcZ (R:Rl fd W σ s.heap) {h₁:Heap} (hk₁:∀ a o,s.heap.get? a = some o -> h₁.get? a = some o):News (hideAll s.heap W.adr) s.heap.objs.size h₁ (W.led s.heap):=fun p hp=>by
  have ha:p.1 ∈ W.adr:=by rw [<- Wd.led_map W s.heap]; exact List.mem_map_of_mem hp
  exact ⟨hk₁ _ _ (R.news p hp).1,Nat.ne_of_lt (R.adr_lt ha),hideAll_none _ ha⟩
theorem ZjN (R:Rl fd W σ s.heap):∀ (i:Nat) o,σ.H[i]? = some o -> AObj.lim σ.H.length o = true:=fun i o e=>by
  refine e2a4 (R.at e) fun a o' _ _ _ _ h4=>?_
  have:=ORel.lim h4
  rwa [R.len] at this
theorem Zj2 {f:Addr} {oc:Value} {od:Option Addr} {osl:Array (Option Value)} {name qual:Str} {params:Arguments} {body:List Stmt} {scope:Scope} {dV kV doc pm cdv ct:Value} {an:Option Addr} {names:List Str} {args dps:List PV} {dvs:List Value}
    {H H':List AObj} {r:PV} {σ':St} {loc:List (Str × PV)} {o:Out}
    (ho:C.K.lookup f = some ⟨oc,od,.func (fnOf name qual params body scope dV kV doc pm an cdv ct),osl⟩) (hcd:codeIn C.K cdv qual = true)
    (hb:∀ (s:Shared) (vs:List Value),C.K.In s.heap -> vs.length = args.length -> BindsTo s (fnOf name qual params body scope dV kV doc pm an cdv ct) ⟨vs,[]⟩ (names.zip (vs ++ dvs)))
    (hd:∀ W,VRels W dps dvs)
    (hnm:∀ x ∈ names,scope.names.lookup x = some .local)
    (hcell:∀ x ∈ scope.names,x.2 ≠ .cell) (hco:scope.isCoroutine = false) (hgen:scope.isGenerator = false) (hk:scope.kind = .function)
    (hloc:loc = (names.zip (args ++ dps)).reverse)
    (hmain:LimH H.length H -> PV.lims H.length args = true -> Ex C k ⟨qual,scope,f,cdv,none⟩ ⟨loc,[],H,none,[]⟩ body o σ' /\ LimH H'.length H' /\ PV.lim H'.length r = true) (hr:Rets o r)
    (hH:σ'.H.take H'.length = H') (hle:H.length <= H'.length):CodeJ C (k + 1) (.ref f) args H r H':=by
  intro fi loc₀ cm ci cc fd W s vs Q E ok R V bk
  refine e1a1 R.fr fun m F lc=>?_
  have X:=ok.X
  have T:=ok.T
  have hvl:vs.length = args.length:=(VRels.length V).symm
  refine e0a2 (Zdm ok R F (fi':=⟨qual,scope,f,cdv,none⟩) hk rfl []) fun ok' FG st=>?_
  refine codeAny_call_def (fd:=fnOf name qual params body scope dV kV doc pm an cdv ct) (body:=body) (binds:=names.zip (vs ++ dvs)) (by have:=ok.dp; show fd.dp < recursionLimit; unfold recursionLimit; lia) ((X.keeps F.keep) _ _ ho) rfl (T.nolimit.keeps F.keep) (codeRec_of (X.keeps F.keep) hcd) rfl (hb s vs (X.keeps F.keep) hvl) hcell (fun y hy=>hnm _ (List.of_mem_zip (show (y.1,y.2) ∈ names.zip (vs ++ dvs) from hy)).1) (fun h₁ hns hk₁=>?_) hco hgen hk
  have LR:LRel W loc ((names.zip (vs ++ dvs)).reverse):=by
    subst hloc; exact LRel.reverse (LRel.zip (VRels.append V (hd W)) names)
  have F₁:Fr (hideAll s.heap W.adr) s.heap.objs.size h₁ (fun y=>(names.zip (vs ++ dvs)).reverse.lookup y):=⟨hns,fun a o e=>hk₁ a o (of_hideAll _ e),Nat.le_of_eq (hideAll_size _ _)⟩
  have R₁:Rl (fd.inner fi s.heap W.adr []) W ⟨loc,[],H,none,[]⟩ h₁:=
    RelF.carry R (fd':=fd.inner fi s.heap W.adr []) F₁ (fun x v e=>LR.lookup e) (ZcZ R hk₁) (fun x i e=>by exact nse e) (fun i e=>by exact nse e) (fun x i e=>by exact nse e)
  have W0:=ZjN R
  have A0:PV.lims H.length args = true:=by have:=VRels.lim V; rw [R.len] at this; exact this
  refine e0a2 (hmain (.of W0) A0) fun hbody hob hrb=>?_
  refine hbody (fd.inner fi s.heap W.adr []) W { s with heap:=h₁,toks:=_ } _ _ ok' R₁ (fun W1 f1 g1 t1 l1 R1 V1=>?_)
  have Rc:=RelF.cut R1 (n:=H'.length) (H':=H') (loc':=[]) (cm':=[]) hH rfl (ci':=none) (cc':=[]) hob.get (fun x v e=>by exact nse e) (fun x i e=>by exact nse e) (fun i e=>by exact nse e) (fun x i e=>by exact nse e)
  have lc1:W.le (W1.cut H'.length):=Wd.le_cut l1 (by rw [R.len]; exact hle)
  have Rb:=Zc0 ok R F lc (fi':=⟨qual,scope,f,cdv,none⟩) Rc lc1 hk rfl
  have fin:∀ v,VRel W1 r v -> Q v { s with heap:=g1,toks:=t1 }:=fun v Vr=>bk (W1.cut H'.length) v g1 t1 lc1 Rb (VRel.cut Vr hrb)
  cases hr with
  | next=>apply FRel.next_e V1; exact fin _ .none
  | ret v=>apply FRel.ret_e V1; intro _ z; exact fin _ z
end
end
theorem ZaR {α:Type} (x:Str) (a b:List (Str × α)):(a ++ b).lookup x = match a.lookup x with | some v=>some v | none=>b.lookup x:=by
  induction a with
  | nil=>rfl
  | cons p r ih=>
    obtain ⟨y,v⟩:=p
    rw [List.cons_append,List.lookup_cons,List.lookup_cons,ih]
    cases x == y <;> rfl
theorem ZjF (kd:Str -> Option NameKind) (x:Str) (bs:List (Str × Value)):∀ (m:Str -> Option Value),
    bindL kd bs m x = match (bs.filter fun y=>decide (kd y.1 = some .local)).reverse.lookup x with | some v=>some v | none=>m x:=by
  induction bs with
  | nil=>exact fun _=>rfl
  | cons p r ih=>
    obtain ⟨n,v⟩:=p
    intro m
    rw [bindL,ih]
    by_cases h:kd n = some .local
    . rw [List.filter_cons_of_pos (by simpa using h),List.reverse_cons,ZaR,if_pos h]
      cases (List.filter (fun y=>decide (kd y.1 = some .local)) r).reverse.lookup x with
      | some u=>rfl
      | none=>
        simp only [List.lookup_cons,List.lookup_nil]
        by_cases q:x = n
        . simp [q]
        . simp [beq_eq_false_iff_ne.mpr q,q]
    . rw [List.filter_cons_of_neg (by simpa using h),if_neg h]
theorem ZjG (kd:Str -> Option NameKind) (x:Str) (bs:List (Str × Value)):∀ (m:Str -> Option Value),
    bindC kd bs m x = match (bs.filter fun y=>!decide (kd y.1 = some .local)).reverse.lookup x with | some v=>some v | none=>m x:=by
  induction bs with
  | nil=>exact fun _=>rfl
  | cons p r ih=>
    obtain ⟨n,v⟩:=p
    intro m
    rw [bindC,ih]
    by_cases h:kd n = some .local
    . rw [List.filter_cons_of_neg (by simpa using h),if_pos h]
    . rw [List.filter_cons_of_pos (by simpa using h),List.reverse_cons,ZaR,if_neg h]
      cases (List.filter (fun y=>!decide (kd y.1 = some .local)) r).reverse.lookup x with
      | some u=>rfl
      | none=>
        simp only [List.lookup_cons,List.lookup_nil]
        by_cases q:x = n
        . simp [q]
        . simp [beq_eq_false_iff_ne.mpr q,q]
theorem LRel.filter {W:Wd} (f:Str -> Bool) {p:List (Str × PV)} {v:List (Str × Value)} (h:LRel W p v):LRel W (p.filter fun y=>f y.1) (v.filter fun y=>f y.1):=by
  induction h with
  | nil=>exact .nil
  | @cons x _ _ _ _ a r ih=>
    cases h:f x with
    | true=>rw [List.filter_cons_of_pos (by simpa using h),List.filter_cons_of_pos (by simpa using h)]; exact .cons a ih
    | false=>rw [List.filter_cons_of_neg (by simp [h]),List.filter_cons_of_neg (by simp [h])]; exact ih
theorem LRel.lookup_none {W:Wd} {p:List (Str × PV)} {v:List (Str × Value)} (h:LRel W p v) {x:Str} (e:lk x p = none):v.lookup x = none:=by
  induction h with
  | nil=>rfl
  | @cons y _ _ _ _ a r ih=>
    rw [lk_c] at e
    rw [List.lookup_cons]
    by_cases q:x = y
    . rw [if_pos q] at e; exact nes e
    . rw [if_neg q] at e
      have:(x == y) = false:=beq_eq_false_iff_ne.mpr q
      simp only [this]; exact ih e
noncomputable def cmOf:Nat -> List (Str × Nat) -> List (Str × Nat)
  | _,[]=>[]
  | n,p :: r=>(p.1,n) :: cmOf (n + 1) r
theorem ZnI {n:Nat} {p:Str × Nat} {r:List (Str × Nat)}:cmOf n (p :: r) = (p.1,n) :: cmOf (n + 1) r:=rfl
theorem Zjs (base:Addr) (φ:List Addr) (offs:List (Str × Nat)):∀ (n:Nat) (x:Str) (i:Nat),lkN x (cmOf n offs) = some i -> (∀ j a,(offs.map fun p=>base + p.2)[j]? = some a -> φ[n + j]? = some a) ->
    ∃ a,(offs.map fun p=>(p.1,base + p.2)).lookup x = some a /\ φ[i]? = some a:=by
  induction offs with
  | nil=>intro _ _ _ e _; cases e
  | cons p r ih=>
    obtain ⟨y,k⟩:=p
    intro n x i e h
    rw [ZnI,ZeQ] at e
    simp only [List.map_cons,List.lookup_cons]
    by_cases q:x = y
    . rw [if_pos q] at e; obtain rfl:=Option.some.inj e
      subst q
      simp only [beq_self_eq_true]
      exact ⟨_,rfl,h 0 _ rfl⟩
    . rw [if_neg q] at e
      have:(x == y) = false:=beq_eq_false_iff_ne.mpr q
      simp only [this]
      exact ih (n + 1) x i e fun j a e'=>by
        have:=h (j + 1) a (by simpa using e')
        rwa [Nat.add_assoc,Nat.add_comm 1 j]
section
variable {fd:Fd} {W:Wd} {σ:St} {h:Heap}
theorem RelF.owns (as:List Addr):∀ (obs:List AObj) {W:Wd} {σ:St},RelF fd W σ h -> as.length = obs.length -> as.Nodup -> (∀ a ∈ as,a ≠ fd.L /\ fd.b.get? a = none /\ a ∉ W.adr) ->
    (∀ (i:Nat) a o,as[i]? = some a -> obs[i]? = some o -> ∃ o',h.get? a = some o' /\ ORel W o o' /\ o.isD = false) -> RelF fd { W with φ:=W.φ ++ as } { σ with H:=σ.H ++ obs } h:=by
  induction as with
  | nil=>
    intro obs W σ R e _ _ _
    cases obs with
    | nil=>simpa using R
    | cons _ _=>cases e
  | cons a as ih=>
    intro obs W σ R e nd hn ho
    cases obs with
    | nil=>cases e
    | cons o obs=>
      refine e1a2 (ho 0 a o rfl rfl) fun o' h1 h2 hdd=>?_
      refine e0a2 (hn a (.head _)) fun q1 q2 q3=>?_
      have R1:=R.own h1 q1 q2 q3 h2 (by rw [hdd]; intro e; exact ft e)
      rw [List.nodup_cons] at nd
      have R2:=ih obs R1 (by simpa using e) nd.2 (fun c hc=>by
        refine e0a2 (hn c (.tail _ hc)) fun p1 p2 p3=>?_
        refine ⟨p1,p2,fun q=>?_⟩
        rcases List.mem_append.mp q with q | q
        . rcases List.mem_append.mp q with q | q
          . exact p3 (List.mem_append_left _ q)
          . simp at q; subst q; exact nd.1 hc
        . exact p3 (List.mem_append_right _ q)) (fun i c ob e1 e2=>by
        refine e1a2 (ho (i + 1) c ob (by simpa using e1) (by simpa using e2)) fun o'' h3 h4 h5=>?_
        exact ⟨o'',h3,ORel.mono (Wd.le_push W a) h4,h5⟩)
      have eφ:(W.push a).φ ++ as = W.φ ++ a :: as:=by show (W.φ ++ [a]) ++ as = _; simp
      have eH:(σ.H ++ [o]) ++ obs = σ.H ++ o :: obs:=by simp
      have R2:RelF fd { φ:=(W.push a).φ ++ as,Z:=W.Z } { loc:=σ.loc,cm:=σ.cm,H:=(σ.H ++ [o]) ++ obs,ci:=σ.ci,cc:=σ.cc } h:=R2
      rw [eφ,eH] at R2
      exact R2
end
theorem ZbV {cmf:Str -> Option Value} {cs:List (Str × Addr)} {cells:List (Addr × Obj)} (h:CellsAre cmf cs cells):∀ {i:Nat} {x:Str} {c:Addr},cs[i]? = some (x,c) -> ∃ o,(c,o) ∈ cells /\ o.data = .cell (cmf x):=by
  induction h with
  | nil=>intro i x c q; simp at q
  | cons e _ ih=>
    intro i x c q
    cases i with
    | zero=>simp at q; refine e0a1 q fun hqa hqb=>?_; subst hqa; subst hqb; exact ⟨_,.head _,e⟩
    | succ i=>
      refine e1a1 (ih (i:=i) (by simpa using q)) fun o h1 h2=>?_
      exact ⟨o,.tail _ h1,h2⟩
section
variable {C:Cx} {k:Nat} {fi:Fi} {fd:Fd} {W:Wd} {σ:St} {s:Shared}
theorem ZgI {f:Addr} {oc:Value} {od:Option Addr} {osl:Array (Option Value)} {name qual:Str} {params:Arguments} {body:List Stmt} {scope:Scope} {dV kV doc pm cdv ct:Value} {an:Option Addr} {names:List Str} {args:List PV} {offs:List (Str × Nat)}
    {H H' cobs:List AObj} {r:PV} {σ':St} {loc:List (Str × PV)} {o:Out}
    (ho:C.K.lookup f = some ⟨oc,od,.func (fnOf name qual params body scope dV kV doc pm an cdv ct),osl⟩) (hcd:codeIn C.K cdv qual = true)
    (hb:∀ (s:Shared) (vs:List Value),C.K.In s.heap -> vs.length = args.length -> BindsTo s (fnOf name qual params body scope dV kV doc pm an cdv ct) ⟨vs,[]⟩ (names.zip vs))
    (hnm:∀ x ∈ names,scope.names.lookup x = some .local ∨ scope.names.lookup x = some .cell)
    (hcl:∀ n,cellsFrom n scope.names [] = offs.map fun p=>(p.1,n + p.2)) (hnd1:(offs.map (·.1)).Nodup) (hnd:(offs.map (·.2)).Nodup)
    (hco:scope.isCoroutine = false) (hgen:scope.isGenerator = false) (hk:scope.kind = .function)
    (hloc:loc = ((names.zip args).filter fun y=>decide (scope.names.lookup y.1 = some .local)).reverse)
    (hcob:cobs = offs.map fun p=>.cell (lk p.1 ((names.zip args).filter fun y=>!decide (scope.names.lookup y.1 = some .local)).reverse))
    (hmain:LimH H.length H -> PV.lims H.length args = true -> Ex C k ⟨qual,scope,f,cdv,none⟩ ⟨loc,cmOf H.length offs,H ++ cobs,none,[]⟩ body o σ' /\ LimH H'.length H' /\ PV.lim H'.length r = true) (hr:Rets o r)
    (hH:σ'.H.take H'.length = H') (hle:H.length <= H'.length):CodeJ C (k + 1) (.ref f) args H r H':=by
  intro fi loc₀ cm ci cc fd W s vs Q E ok R V bk
  refine e1a1 R.fr fun m F lc=>?_
  have X:=ok.X
  have T:=ok.T
  have hvl:vs.length = args.length:=(VRels.length V).symm
  have LR:=LRel.zip V names
  refine callX_cells (env:=fd.env fi) ok.B F R.news T.nolimit rfl rfl ok.kf ((X.keeps F.keep) _ _ ho) rfl (codeRec_of (X.keeps F.keep) hcd) (by have:=ok.dp; show fd.dp < recursionLimit; unfold recursionLimit; lia) (hb s vs (X.keeps F.keep) hvl) ?_ ?_ ?_ hco hgen hk
  . intro n y hy
    have:=List.of_mem_zip (show (y.1,y.2) ∈ names.zip vs from hy)
    rcases hnm _ this.1 with q | q
    . exact .inl q
    . exact .inr ⟨q,cellsFrom_some _ _ _ (.inl q)⟩
  . rw [hcl,List.map_map]; exact hnd1
  . intro g L' h₁ tk cells FG F' N' Y B' st lt
    let fd':Fd:={ b:=g,base:=fd.base,L:=L',cl:=cellsFrom (L' + 1) scope.names [],outer:=fd.env fi :: fd.outer,A₀:=fd.A fi,hd:=fd.hd,dp:=fd.dp + 1,un:=fd.un + 3,gd:=fd.gd }
    have ok':OkF C k ⟨qual,scope,f,cdv,none⟩ fd':=⟨B',X.keeps st,T.keeps st,hk,(fun sc e=>by exact nse e),by
      rcases ok.hn with e | e
      . exact .inl e
      . exact absurd e (Nat.succ_ne_zero _),by have:=ok.dp; show fd.dp + 1 + 10 * k < 990; lia,by have:=ok.un; show fd.un + 3 + 100 * k < 9000; lia,.inl (by rcases ok.ho with e | e <;> lia)⟩
    have F':Fr g L' h₁ (bindL (fun x=>scope.names.lookup x) (names.zip vs) fun _=>none):=F'
    have Y:CellsAre (bindC (fun x=>scope.names.lookup x) (names.zip vs) fun _=>none) (cellsFrom (L' + 1) scope.names []) cells:=Y
    rw [hcl] at Y
    have R₀:Rl fd' W ⟨loc,[],H,none,[]⟩ h₁:=by
      refine RelF.carry R (fd':=fd') F' (fun x v e=>?_) (fun p hp=>N' p (List.mem_append_right _ hp)) (fun x i e=>by exact nse e) (fun i e=>by exact nse e) (fun x i e=>by exact nse e)
      subst hloc
      refine e1a1 ((LRel.reverse (LRel.filter (fun x=>decide (scope.names.lookup x = some .local)) LR)).lookup e) fun u h1 h2=>?_
      exact ⟨u,by rw [ZjF,h1],h2⟩
    have R₁:Rl fd' { W with φ:=W.φ ++ offs.map fun p=>L' + 1 + p.2 } ⟨loc,[],H ++ cobs,none,[]⟩ h₁:=by
      refine RelF.owns (offs.map fun p=>L' + 1 + p.2) cobs R₀ (by subst hcob; simp) ?_ (fun a ha=>?_) (fun i a ob e1 e2=>?_)
      . have:(offs.map fun p=>L' + 1 + p.2) = (offs.map (·.2)).map (L' + 1 + ·):=by rw [List.map_map]; rfl
        rw [this]
        exact List.Pairwise.map _ (fun a b q e=>q (Nat.add_left_cancel e)) hnd
      . refine e1a1 (List.mem_map.mp ha) fun p hp hqa=>?_; subst hqa
        refine e1a0 (List.mem_iff_getElem?.mp hp) fun i hi=>?_
        refine e1a1 (ZbV Y (i:=i) (x:=p.1) (c:=L' + 1 + p.2) (by rw [List.getElem?_map,hi]; rfl)) fun o' h1 h2=>?_
        have:=N' _ (List.mem_append_left _ h1)
        refine ⟨this.2.1,this.2.2,fun q=>?_⟩
        rw [<- Wd.led_map W s.heap] at q
        refine e1a1 (List.mem_map.mp q) fun p' hp' e'=>?_
        have:=lt p' hp'
        rw [e'] at this
        have:Nat.lt (L' + 1 + p.2) L':=this
        exact Nat.lt_irrefl L' (Nat.lt_of_lt_of_le (Nat.lt_succ_self L') (Nat.le_trans (Nat.le_add_right (L' + 1) p.2) (Nat.le_of_lt this)))
      . rw [List.getElem?_map] at e1
        cases hp:offs[i]? with
        | none=>rw [hp] at e1; exact nse e1
        | some p=>
          rw [hp] at e1; obtain rfl:=Option.some.inj e1
          subst hcob
          rw [List.getElem?_map,hp] at e2; obtain rfl:=Option.some.inj e2
          refine e1a1 (ZbV Y (i:=i) (x:=p.1) (c:=L' + 1 + p.2) (by rw [List.getElem?_map,hp]; rfl)) fun o' h1 h2=>?_
          refine ⟨o',(N' _ (List.mem_append_left _ h1)).1,?_,rfl⟩
          have LF:=LRel.reverse (LRel.filter (fun x=>!decide (scope.names.lookup x = some .local)) LR)
          rw [ZjG] at h2
          cases hu:lk p.1 ((names.zip args).filter fun y=>!decide (scope.names.lookup y.1 = some .local)).reverse with
          | none=>
            rw [LF.lookup_none hu] at h2
            show ORel W (.cell (lk p.1 _)) o'
            rw [hu]; exact .cellN h2
          | some u=>
            refine e1a1 (LF.lookup hu) fun u' h3 h4=>?_
            rw [h3] at h2
            show ORel W (.cell (lk p.1 _)) o'
            rw [hu]; exact .cell h2 h4
    have l₁:W.le { W with φ:=W.φ ++ offs.map fun p=>L' + 1 + p.2 }:=⟨fun i a e=>by
      show (W.φ ++ _)[i]? = some a
      rw [List.getElem?_append_left (List.getElem?_eq_some_iff.mp e).1]; exact e,fun _ e=>e⟩
    have R₂:Rl fd' { W with φ:=W.φ ++ offs.map fun p=>L' + 1 + p.2 } ⟨loc,cmOf H.length offs,H ++ cobs,none,[]⟩ h₁:=
      ⟨R₁.fr,R₁.len,R₁.nd,R₁.obj,R₁.frz,fun x i e=>by
        show ∃ a,(cellsFrom (L' + 1) scope.names []).lookup x = some a /\ _
        rw [hcl]
        refine Zjs (L' + 1) _ offs H.length x i e fun j a e'=>?_
        show (W.φ ++ _)[H.length + j]? = some a
        have hl:W.φ.length = H.length:=R.len
        rw [<- hl,List.getElem?_append_right (Nat.le_add_right _ _),Nat.add_sub_cancel_left]; exact e',(fun i e=>by exact nse e),(fun x i e=>by exact nse e),R₁.dn⟩
    have W0:=ZjN R
    have A0:PV.lims H.length args = true:=by have:=VRels.lim V; rw [R.len] at this; exact this
    refine e0a2 (hmain (.of W0) A0) fun hbody hob hrb=>?_
    refine hbody fd' _ { s with heap:=h₁,toks:=tk } _ _ ok' R₂ (fun W1 f1 g1 t1 l1 R1 V1=>?_)
    have Rc:=RelF.cut R1 (n:=H'.length) (H':=H') (loc':=[]) (cm':=[]) hH rfl (ci':=none) (cc':=[]) hob.get (fun x v e=>by exact nse e) (fun x i e=>by exact nse e) (fun i e=>by exact nse e) (fun x i e=>by exact nse e)
    have lc1:W.le (W1.cut H'.length):=Wd.le_cut (l₁.trans l1) (by rw [R.len]; exact hle)
    refine e1a1 Rc.fr fun m₁ F₁ _=>?_
    refine ⟨L',m₁,(W1.cut H'.length).led g1,F₁,Rc.news,fun F2 N2=>?_⟩
    have Rb:Rl fd (W1.cut H'.length) ⟨loc₀,cm,H',ci,cc⟩ g1:=RelF.carry Rc (fd':=fd) F2 (fun x v e=>by
      refine e1a1 (lc x v e) fun v' h1 h2=>?_
      exact ⟨v',h1,VRel.mono lc1 h2⟩) N2 (fun x i e=>by
      refine e1a1 (R.cel x i e) fun a h1 h2=>?_
      exact ⟨a,h1,lc1.φ _ _ h2⟩) (fun i e=>lc1.φ _ _ (R.cen i e)) (fun x i e=>by refine e1a1 (R.cec x i e) fun a h1 h2=>?_; exact ⟨a,h1,lc1.φ _ _ h2⟩)
    have fin:∀ v,VRel W1 r v -> Q v { s with heap:=g1,toks:=t1 }:=fun v Vr=>bk (W1.cut H'.length) v g1 t1 lc1 Rb (VRel.cut Vr hrb)
    cases hr with
    | next=>apply FRel.next_e V1; exact fin _ .none
    | ret v=>apply FRel.ret_e V1; intro _ z; exact fin _ z
end
section
variable {fd:Fd} {W:Wd} {σ:St} {h:Heap}
theorem RelF.give_lst (R:RelF fd W σ h) {a:Addr} {vs:List Value} {n:Nat} {xs:List PV} (ha:h.get? a = some (lstO vs n)) (hL:a ≠ fd.L) (hb:fd.b.get? a = none) (hn:a ∉ W.φ) (V:VRels W xs vs) :
    W.le (W.frz a (lstO vs n)) /\ RelF fd (W.frz a (lstO vs n)) σ h /\ VRel (W.frz a (lstO vs n)) (.lst xs) (.ref a):=
  ⟨Wd.le_frz _ _ _,R.ice ha hL hb (fun _ e=>absurd (List.mem_of_getElem? e) hn),.lst (Wd.frz_at _ _ _) (VRels.mono (Wd.le_frz _ _ _) V)⟩
theorem RelF.give_tup (R:RelF fd W σ h) {a:Addr} {vs:List Value} {n:Nat} {xs:List PV} (ha:h.get? a = some (tupO vs n)) (hL:a ≠ fd.L) (hb:fd.b.get? a = none) (hn:a ∉ W.φ) (V:VRels W xs vs) :
    W.le (W.frz a (tupO vs n)) /\ RelF fd (W.frz a (tupO vs n)) σ h /\ VRel (W.frz a (tupO vs n)) (.tup xs) (.ref a):=
  ⟨Wd.le_frz _ _ _,R.ice ha hL hb (fun _ e=>absurd (List.mem_of_getElem? e) hn),.tup (Wd.frz_at _ _ _) rfl rfl (VRels.mono (Wd.le_frz _ _ _) V)⟩
theorem RelF.give_list (R:RelF fd W σ h) {a:Addr} {vs:List Value} {n:Nat} {xs:List PV} (ha:h.get? a = some (lstO vs n)) (hL:a ≠ fd.L) (hb:fd.b.get? a = none) (hn:a ∉ W.adr) (V:VRels W xs vs) :
    W.le (W.push a) /\ RelF fd (W.push a) { σ with H:=σ.H ++ [.list xs] } h /\ VRel (W.push a) (.ref σ.H.length) (.ref a):=
  ⟨Wd.le_push _ _,R.own ha hL hb hn (.list V),.ref (Wd.push_at _ _ R.len.symm)⟩
theorem RelF.size_new (R:RelF fd W σ h):h.objs.size ∉ W.adr:=fun q=>Nat.lt_irrefl _ (R.adr_lt q)
theorem RelF.size_newφ (R:RelF fd W σ h):h.objs.size ∉ W.φ:=fun q=>Nat.lt_irrefl _ (R.lt q)
end
section
variable {C:Cx} {k:Nat} {fi:Fi} {σ σ₁ σ₂ σ₃ σ':St}
theorem ZiL {a b:Int}:BinJ C k fi σ .Add (.int a) (.int b) (.int (a + b)) σ:=by
  intro fd W s va vb Q E ok R V U bk; apply VRel.int_e V; intro _; apply VRel.int_e U; intro _
  with_reducible refine add_int ?_
  exact bk W _ s.heap _ (.refl _) R (.int _ _)
theorem ZmT {a b:Int}:BinJ C k fi σ .Sub (.int a) (.int b) (.int (a - b)) σ:=by
  intro fd W s va vb Q E ok R V U bk; apply VRel.int_e V; intro _; apply VRel.int_e U; intro _
  with_reducible refine sub_int ?_
  exact bk W _ s.heap _ (.refl _) R (.int _ _)
theorem ZmY {a b:Int} (hm:IntMulOk a b):BinJ C k fi σ .Mult (.int a) (.int b) (.int (a * b)) σ:=by
  intro fd W s va vb Q E ok R V U bk; apply VRel.int_e V; intro _; apply VRel.int_e U; intro _
  with_reducible refine mul_int ?_ hm
  exact bk W _ s.heap _ (.refl _) R (.int _ _)
theorem ZiI {a b:Int} (hb:b ≠ 0):BinJ C k fi σ .Mod (.int a) (.int b) (.int (a.fmod b)) σ:=by
  intro fd W s va vb Q E ok R V U bk; apply VRel.int_e V; intro _; apply VRel.int_e U; intro _
  exact mod_int' hb (bk W _ s.heap _ (.refl _) R (.int _ _))
theorem ZiJ {a b:Int} (hb:b ≠ 0) (hp:Builtin.divisionGoesByPylong a b = false):BinJ C k fi σ .FloorDiv (.int a) (.int b) (.int (a.fdiv b)) σ:=by
  intro fd W s va vb Q E ok R V U bk; apply VRel.int_e V; intro _; apply VRel.int_e U; intro _
  with_reducible refine floordiv_int hb ?_ (.inl hp)
  exact bk W _ s.heap _ (.refl _) R (.int _ _)
theorem ZmV {a n:Int} (hn:0 <= n) (hb:(Builtin.Int.intBits a:Int) + n <= 2 ^ 27):BinJ C k fi σ .LShift (.int a) (.int n) (.int (a * 2 ^ n.toNat)) σ:=by
  intro fd W s va vb Q E ok R V U bk; apply VRel.int_e V; intro _; apply VRel.int_e U; intro _
  with_reducible refine lshift_int hn hb ?_
  exact bk W _ s.heap _ (.refl _) R (.int _ _)
theorem ZmU {a n:Int} (hn:0 <= n):BinJ C k fi σ .RShift (.int a) (.int n) (.int (a.fdiv (2 ^ n.toNat))) σ:=by
  intro fd W s va vb Q E ok R V U bk; apply VRel.int_e V; intro _; apply VRel.int_e U; intro _
  with_reducible refine rshift_int hn ?_
  exact bk W _ s.heap _ (.refl _) R (.int _ _)
theorem ZiK {a b:Int}:BinJ C k fi σ .BitAnd (.int a) (.int b) (.int (Builtin.bitAnd a b)) σ:=by
  intro fd W s va vb Q E ok R V U bk; apply VRel.int_e V; intro _; apply VRel.int_e U; intro _
  with_reducible refine and_int ?_
  exact bk W _ s.heap _ (.refl _) R (.int _ _)
theorem Zoi {a b:Int}:BinJ C k fi σ .BitOr (.int a) (.int b) (.int (Builtin.bitOr a b)) σ:=by
  intro fd W s va vb Q E ok R V U bk; apply VRel.int_e V; intro _; apply VRel.int_e U; intro _
  with_reducible refine or_int ?_
  exact bk W _ s.heap _ (.refl _) R (.int _ _)
theorem ZmS {a b:Int}:BinJ C k fi σ .BitXor (.int a) (.int b) (.int (Builtin.bitXor a b)) σ:=by
  intro fd W s va vb Q E ok R V U bk; apply VRel.int_e V; intro _; apply VRel.int_e U; intro _
  with_reducible refine xor_int ?_
  exact bk W _ s.heap _ (.refl _) R (.int _ _)
theorem ZmX {a n:Int} (h0:0 <= n) (h1:n <= 1000000) (h2:a.natAbs < 2 ^ 64):BinJ C k fi σ .Pow (.int a) (.int n) (.int (a ^ n.toNat)) σ:=by
  intro fd W s va vb Q E ok R V U bk; apply VRel.int_e V; intro _; apply VRel.int_e U; intro _
  with_reducible refine pow_int_small h0 h1 h2 ?_
  exact bk W _ s.heap _ (.refl _) R (.int _ _)
theorem ZmZ {a b:Str} (hz:a.length + b.length <= 16777216):BinJ C k fi σ .Add (.str a) (.str b) (.str (a ++ b)) σ:=by
  intro fd W s va vb Q E ok R V U bk; apply VRel.str_e V; intro _; apply VRel.str_e U; intro _
  with_reducible refine KOpn.add hz ?_
  exact fun t' tk _=>bk W _ s.heap tk (.refl _) R (.str _ _)
theorem ZnT {a:Int}:UnJ C k fi σ .USub (.int a) (.int (-a)) σ:=by
  intro fd W s va Q E ok R V bk; apply VRel.int_e V; intro _
  with_reducible refine neg_int ?_
  exact bk W _ s.heap _ (.refl _) R (.int _ _)
theorem ZmR {a b:Int}:CmpJ C k fi σ .Eq (.int a) (.int b) (a == b) σ:=by
  intro fd W s va vb Q E ok R V U bk; apply VRel.int_e V; intro _; apply VRel.int_e U; intro _
  with_reducible refine eq_int ?_
  exact bk W _ s.heap s.toks (.refl _) R rfl
theorem Zfi {a b:Int}:CmpJ C k fi σ .NotEq (.int a) (.int b) (a != b) σ:=by
  intro fd W s va vb Q E ok R V U bk; apply VRel.int_e V; intro _; apply VRel.int_e U; intro _
  with_reducible refine ne_int ?_
  exact bk W _ s.heap s.toks (.refl _) R rfl
theorem ZmN {a b:Int}:CmpJ C k fi σ .Lt (.int a) (.int b) (decide (a < b)) σ:=by
  intro fd W s va vb Q E ok R V U bk; apply VRel.int_e V; intro _; apply VRel.int_e U; intro _
  with_reducible refine lt_int ?_
  exact bk W _ s.heap s.toks (.refl _) R rfl
theorem ZmO {a b:Int}:CmpJ C k fi σ .LtE (.int a) (.int b) (decide (a <= b)) σ:=by
  intro fd W s va vb Q E ok R V U bk; apply VRel.int_e V; intro _; apply VRel.int_e U; intro _
  with_reducible refine le_int ?_
  exact bk W _ s.heap s.toks (.refl _) R rfl
theorem ZmP {a b:Int}:CmpJ C k fi σ .GtE (.int a) (.int b) (decide (b <= a)) σ:=by
  intro fd W s va vb Q E ok R V U bk; apply VRel.int_e V; intro _; apply VRel.int_e U; intro _
  with_reducible refine ge_int ?_
  exact bk W _ s.heap s.toks (.refl _) R rfl
theorem ZmQ {a b:Str}:CmpJ C k fi σ .Eq (.str a) (.str b) (a == b) σ:=by
  intro fd W s va vb Q E ok R V U bk; apply VRel.str_e V; intro _; apply VRel.str_e U; intro _
  with_reducible refine eq_str ?_
  exact bk W _ s.heap s.toks (.refl _) R rfl
theorem ZmL {a b:Str}:CmpJ C k fi σ .NotEq (.str a) (.str b) (a != b) σ:=by
  intro fd W s va vb Q E ok R V U bk; apply VRel.str_e V; intro _; apply VRel.str_e U; intro _
  with_reducible refine ne_str ?_
  exact bk W _ s.heap s.toks (.refl _) R rfl
theorem ZgJ {C':Addr} {es:List (Str × PV)}:CmpJ C k fi σ .IsNot (.obj C' es) .none true σ:=by
  intro fd W s va vb Q E ok R V U bk; apply VRel.obj_e V; intro _ _ _ _ _ _ _; apply VRel.none_e U
  with_reducible refine isnot_ref_none ?_
  exact bk W _ s.heap s.toks (.refl _) R rfl
theorem ZgK:CmpJ C k fi σ .IsNot .none .none false σ:=by
  intro fd W s va vb Q E ok R V U bk; apply VRel.none_e V; apply VRel.none_e U
  with_reducible refine wpAny_isNot_self rfl ?_
  exact bk W _ s.heap s.toks (.refl _) R rfl
theorem Zej {l r₁ r₂:Expr} {o₁ o₂:CmpOp} {pos:Pos} {a b c:PV} {d e:Bool} (h1:Ev C k fi σ l a σ) (h2:Ev C k fi σ r₁ b σ) (h3:CmpJ C k fi σ o₁ a b d σ) (h4:Ev C k fi σ r₂ c σ) (h5:CmpJ C k fi σ o₂ b c e σ)
    (hm:lastMarks [o₁,o₂] [r₁,r₂] = false:=by rfl):Ts C k fi σ (.Compare l [o₁,o₂] [r₁,r₂] pos) (d && e) σ:=by
  intro fd W s Q E ok R bk
  refine isTrue_chain (h1 fd W s _ E ok R fun W1 v1 g1 t1 l1 R1 V1=>?_) hm
  show wpAny _ _ (testChain pos v1 (o₁ :: [o₂]) (eval r₁ _ :: [eval r₂ _])) _ _ _
  refine wpAny_bind (wpAny_holding (h2 fd W1 _ _ E ok R1 fun W2 v2 g2 t2 l2 R2 V2=>?_))
  refine wpAny_bind (wpAny_standAt (wpAny_bind (wpAny_holding (h3 fd W2 _ _ _ _ E ok R2 (VRel.mono l2 V1) V2 fun W3 v3 g3 t3 l3 R3 V3=>?_))))
  subst V3
  refine wpAny_bind (wpAny_release (wpAny_bind (wpAny_holding (wpAny_truthy_bool ?_))))
  cases d with
  | false=>
    simp only [Bool.false_eq_true,if_false]
    exact wpAny_pure (bk W3 _ g3 t3 (l1.trans (l2.trans l3)) R3 rfl)
  | true=>
    simp only [if_true]
    refine wpAny_bind (wpAny_holding (h4 fd W3 _ _ E ok R3 fun W4 v4 g4 t4 l4 R4 V4=>?_))
    refine wpAny_bind (wpAny_standAt (wpAny_bind (wpAny_operating (h5 fd W4 _ _ _ _ E ok R4 (VRel.mono (l3.trans l4) V2) V4 fun W5 v5 g5 t5 l5 R5 V5=>?_))))
    subst V5
    exact wpAny_holding (wpAny_truthy_bool (bk W5 _ g5 t5 (l1.trans (l2.trans (l3.trans (l4.trans l5)))) R5 rfl))
theorem ZeW {n:Nat} (h:n <= 1000000):n <= sizeLine:=by rw [sizeLine_eq]; lia
theorem ZkV {es:List Expr} {n:Nat} {pos:Pos} {vs:List PV} (h:Evs C k fi σ es pos vs σ') (hz:vs.length <= 1000000:=by simp):Ev C k fi σ (.Tuple es n pos) (.tup vs) σ':=by
  intro fd W s Q E ok R bk
  refine Tuple_ (h fd W s _ E ok R fun W1 v1 g1 t1 l1 R1 V1=>?_)
  refine e1a1 R1.fr fun m F lc=>?_
  refine newTuple_N F R1.news (fun h' F' N'=>?_) (by rw [<- VRels.length V1]; exact ZeW hz)
  have R2:=R1.carry (fd':=fd) F' lc (fun p hp=>N' p (.tail _ hp)) R1.cel R1.cen R1.cec
  refine e0a2 (N' _ (.head _)) fun a1 a2 a3=>?_
  refine e0a2 (R2.give_tup (n:=0) a1 a2 a3 R1.size_newφ V1) fun l2 R3 V3=>?_
  exact bk _ _ h' t1 (l1.trans l2) R3 V3
theorem ZaH {es:List Expr} {pos:Pos} {vs:List PV} (h:Evs C k fi σ es pos vs σ') (hz:vs.length <= 1000000:=by simp):Ev C k fi σ (.List es pos) (.lst vs) σ':=by
  intro fd W s Q E ok R bk
  refine List_ (h fd W s _ E ok R fun W1 v1 g1 t1 l1 R1 V1=>?_)
  refine e1a1 R1.fr fun m F lc=>?_
  refine newList_N F R1.news (fun h' F' N'=>?_) (by rw [<- VRels.length V1]; exact ZeW hz)
  have R2:=R1.carry (fd':=fd) F' lc (fun p hp=>N' p (.tail _ hp)) R1.cel R1.cen R1.cec
  refine e0a2 (N' _ (.head _)) fun a1 a2 a3=>?_
  refine e0a2 (R2.give_lst (n:=0) a1 a2 a3 R1.size_newφ V1) fun l2 R3 V3=>?_
  exact bk _ _ h' t1 (l1.trans l2) R3 V3
theorem ZmG {es:List Expr} {pos:Pos} {vs:List PV} (h:Evs C k fi σ es pos vs σ') (hz:vs.length <= 1000000:=by simp):Ev C k fi σ (.List es pos) (.ref σ'.H.length) { σ' with H:=σ'.H ++ [.list vs] }:=by
  intro fd W s Q E ok R bk
  refine List_ (h fd W s _ E ok R fun W1 v1 g1 t1 l1 R1 V1=>?_)
  refine e1a1 R1.fr fun m F lc=>?_
  refine newList_N F R1.news (fun h' F' N'=>?_) (by rw [<- VRels.length V1]; exact ZeW hz)
  have R2:=R1.carry (fd':=fd) F' lc (fun p hp=>N' p (.tail _ hp)) R1.cel R1.cen R1.cec
  refine e0a2 (N' _ (.head _)) fun a1 a2 a3=>?_
  refine e0a2 (R2.give_list (n:=0) a1 a2 a3 R1.size_new V1) fun l2 R3 V3=>?_
  exact bk _ _ h' t1 (l1.trans l2) R3 V3
end
theorem Zd4 (x n:Str) (t:Tok):(Value.str x t).isStr n = decide (n = x):=by
  by_cases h:n = x
  . subst h; simp [Value.isStr]
  . simp [Value.isStr,h]; exact fun e=>h e.symm
theorem ARel.any_ref {W:Wd} {es:List (Str × PV)} {ds:List DictEntry} (h:ARel W es ds):ds.any (·.refKey) = false:=
  h.ind (P3:=fun _ ds=>ds.any (·.refKey) = false) rfl fun _ _ _ _ _ _ _ _ _ ih=>by rw [List.any_cons,ih]; rfl
theorem ARel.findS {W:Wd} {n:Str} {es:List (Str × PV)} {ds:List DictEntry} (h:ARel W es ds):(∀ p,lk n es = some p -> ∃ e,ds.find? (·.key.isStr n) = some e /\ VRel W p e.val) /\ (lk n es = none -> ds.find? (·.key.isStr n) = none):=by
  refine h.ind (P3:=fun es ds=>(∀ p,lk n es = some p -> ∃ e,ds.find? (·.key.isStr n) = some e /\ VRel W p e.val) /\ (lk n es = none -> ds.find? (·.key.isStr n) = none)) ⟨fun p e=>nse e,fun _=>rfl⟩ fun x p hh t v es ds a r ih=>?_
  refine e0a1 ih fun h1 h2=>?_
  simp only [lk_c,List.find?_cons,Zd4]
  by_cases q:n = x
  . subst q; simp; exact a
  . simp [q]; exact ⟨fun p e=>by refine e1a0 (h1 p e) fun e' z=>?_; exact ⟨e',by simpa using z.1,z.2⟩,fun e=>by simpa using h2 e⟩
theorem ARel.get {W:Wd} {n:Str} {es:List (Str × PV)} {ds:List DictEntry} (h:ARel W es ds) {p:PV} (e:lk n es = some p):∃ v,getL n ds = some (some v) /\ VRel W p v:=by
  refine e1a1 (h.findS.1 p e) fun en h1 h2=>?_
  exact ⟨en.val,by unfold getL; rw [h1],h2⟩
theorem ARel.getN {W:Wd} {n:Str} {es:List (Str × PV)} {ds:List DictEntry} (h:ARel W es ds) (e:lk n es = none):getL n ds = some none:=by
  unfold getL; rw [h.findS.2 e,h.any_ref]; rfl
theorem ARel.getS {W:Wd} {n:Str} {es:List (Str × PV)} {ds:List DictEntry} (h:ARel W es ds):(getL n ds).isSome = true:=by
  cases e:lk n es with
  | none=>rw [h.getN e]; rfl
  | some p=>refine e1a1 (h.get e) fun v q _=>?_; rw [q]; rfl
theorem ARel.put {W:Wd} {n:Str} {p:PV} {v:Value} (hv:VRel W p v) (hh:Int) (t:Tok) {es:List (Str × PV)} {ds:List DictEntry} (h:ARel W es ds):ARel W (stl n p es) (putL n hh (.str n t) v ds):=
  h.ind (P3:=fun es ds=>ARel W (stl n p es) (putL n hh (.str n t) v ds)) (.cons hv .nil) fun x _ _ _ _ _ _ a r ih=>by
    simp only [ZgX,putL,Zd4]
    by_cases q:n = x
    . subst q; simp; exact .cons hv r
    . simp [q]; exact .cons a ih
theorem ARel.length {W:Wd} {es:List (Str × PV)} {ds:List DictEntry} (h:ARel W es ds):es.length = ds.length:=
  h.ind (P3:=fun es ds=>es.length = ds.length) rfl fun _ _ _ _ _ _ _ _ _ ih=>congrArg (· + 1) ih
structure ZgL (K:Frag) (C:Addr):Prop where
  get:plainGet K C "" = true
  dict:hasDictIn K C = true
  set:findIn K (.ref C) "__setattr__" = some (some (.builtin "object.__setattr__"))
  over:plainOver K C = true
section
variable {fd:Fd} {W:Wd} {σ:St} {h:Heap}
theorem RelF.inst (R:RelF fd W σ h) {i d:Nat} {Cl:Addr} {es:List (Str × PV)} (hi:σ.H[i]? = some (.inst Cl d)) (hd:σ.H[d]? = some (.attrs es)) :
    ∃ a dx ds n,W.φ[i]? = some a /\ W.φ[d]? = some dx /\ h.get? a = some (instObj Cl dx) /\ h.get? dx = some (dictOf ds n) /\ ARel W es ds:=by
  refine e2a4 (R.at hi) fun a o' h1 h2 _ _ h3=>?_
  refine e1a1 (ORel.inst_i h3) fun dx hqa e=>?_; subst hqa
  refine e1a3 (R.obj d dx _ e hd) fun o'' g1 _ _ g2=>?_
  refine e2a1 (ORel.attrs_i g2) fun _ _ hqa r=>?_; subst hqa
  exact ⟨a,dx,_,_,h1,e,h2,g1,r⟩
theorem RelF.split (R:RelF fd W σ h) {i:Nat} {a:Addr} {o:AObj} {oo:Obj} (hi:W.φ[i]? = some a) (ho:σ.H[i]? = some o) (hd:o ≠ .dead) (ha:h.get? a = some oo) :
    ∃ pre post,W.led h = pre ++ (a,oo) :: post /\ (∀ p ∈ pre,p.1 ≠ a) /\ (∀ p ∈ post,p.1 ≠ a):=by
  have hl:=(List.getElem?_eq_some_iff.mp hi).1
  have e:W.φ = W.φ.take i ++ a :: W.φ.drop (i + 1):=by
    have:=(List.getElem?_eq_some_iff.mp hi).2
    rw [<- this]; simp
  have nd:=R.nd
  rw [e,List.nodup_append] at nd
  refine e0a2 nd fun _ nd2 nd3=>?_
  rw [List.nodup_cons] at nd2
  refine ⟨ZbN (W.φ.take i) h,ZbN (W.φ.drop (i + 1)) h ++ W.Z,?_,fun p hp q=>?_,fun p hp q=>?_⟩
  . show ZbN W.φ h ++ W.Z = _
    conv=>lhs; rw [e]
    simp only [ZbN,List.map_append,List.map_cons,ha,Option.getD_some,List.append_assoc,List.cons_append]
  . refine e1a1 (List.mem_map.mp hp) fun b hb hqa=>?_; subst hqa
    exact nd3 b hb a (.head _) q
  . rcases List.mem_append.mp hp with hp | hp
    . refine e1a1 (List.mem_map.mp hp) fun b hb hqa=>?_; subst hqa
      have q:b = a:=q
      exact nd2.1 (q ▸ hb)
    . have:=(R.frz p hp).2.2.2 i (by rw [q]; exact hi)
      rw [ho] at this; obtain rfl:=Option.some.inj this; exact hd rfl
theorem RelF.turned (R:RelF fd W σ h) {i:Nat} {a:Addr} {o o₂:AObj} {oo o':Obj} {h':Heap} {pre post:List (Addr × Obj)} (hi:W.φ[i]? = some a) (ho:σ.H[i]? = some o) (hd:o ≠ .dead) (hs:W.led h = pre ++ (a,oo) :: post)
    (F:∀ m,Fr fd.b fd.L h m -> Fr fd.b fd.L h' m) (N:News fd.b fd.L h' (pre ++ (a,o') :: post)) (hr:ORel W o₂ o') (hk:o₂.isD = true -> o.isD = true:=by intro e; exact ft e):RelF fd W { σ with H:=σ.H.set i o₂ } h':=by
  refine e1a1 R.fr fun m F₀ lc=>?_
  have il:i < σ.H.length:=(List.getElem?_eq_some_iff.mp ho).1
  have keep:∀ p,p ∈ W.led h -> p.1 ≠ a -> p ∈ pre ++ (a,o') :: post:=fun p hp q=>by
    rw [hs] at hp
    rcases List.mem_append.mp hp with hp | hp
    . exact List.mem_append_left _ hp
    . rcases List.mem_cons.mp hp with rfl | hp
      . exact absurd rfl q
      . exact List.mem_append_right _ (.tail _ hp)
  refine ⟨⟨m,F m F₀,lc⟩,?_,R.nd,fun j c ob e1 e2=>?_,fun p e=>?_,R.cel,R.cen,R.cec,Zk9 R hi ho hk⟩
  . show W.φ.length = (σ.H.set i o₂).length; rw [List.length_set]; exact R.len
  . have e2:(σ.H.set i o₂)[j]? = some ob:=e2
    by_cases q:i = j
    . subst q
      rw [hi] at e1; obtain rfl:=Option.some.inj e1
      rw [List.getElem?_set_self il] at e2; obtain rfl:=Option.some.inj e2
      refine e0a2 (N (a,o') (List.mem_append_right _ (.head _))) fun n1 n2 n3=>?_
      exact ⟨o',n1,n2,n3,hr⟩
    . rw [List.getElem?_set_ne q] at e2
      refine e1a3 (R.obj j c ob e1 e2) fun o₃ h1 h2 h3 h4=>?_
      have hc:c ≠ a:=fun e=>q (by
        subst e
        exact (List.getElem?_inj (List.getElem?_eq_some_iff.mp hi).1 R.nd).mp (hi.trans e1.symm))
      have:=N (c,o₃) (keep _ (List.mem_append_left _ (ZcW e1 h1)) hc)
      exact ⟨o₃,this.1,this.2.1,this.2.2,h4⟩
  . refine e0a3 (R.frz p e) fun h1 h2 h3 h4=>?_
    have hc:p.1 ≠ a:=fun q=>by
      have:=h4 i (by rw [q]; exact hi)
      rw [ho] at this; obtain rfl:=Option.some.inj this; exact hd rfl
    have:=N p (keep p (List.mem_append_right _ e) hc)
    refine ⟨this.1,this.2.1,this.2.2,fun j e1=>?_⟩
    show (σ.H.set i o₂)[j]? = some .dead
    have:=h4 j e1
    by_cases q:i = j
    . subst q; rw [hi] at e1; obtain rfl:=Option.some.inj e1; exact absurd rfl hc
    . rw [List.getElem?_set_ne q]; exact this
end
noncomputable def Handed (p:PV):Prop:=∀ W v,VRel W p v -> handedIn v = true
section
variable {C:Cx} {k:Nat} {fi:Fi} {σ σ₁ σ₂ σ₃ σ':St}
theorem Zmt {i d:Nat} {Cl:Addr} {es:List (Str × PV)} {n:Str} {p:PV} {attr:Option Value} (hi:σ.H[i]? = some (.inst Cl d)) (hd:σ.H[d]? = some (.attrs es)) (hv:lk n es = some p) (K:ZgL C.K Cl)
    (ha:findIn C.K (.ref Cl) n = some attr) (hn:noGet C.K attr = true) (hp:Handed p):GaJ C k fi σ (.ref i) n p σ:=by
  intro fd W s va Q E ok R V bk
  refine e4a4 (R.inst hi hd) fun a dx ds nn h1 h2 h3 h4 h5=>?_
  refine e1a1 R.fr fun m F lc=>?_
  apply VRel.ref_e V; intro _ e
  rw [h1] at e; obtain rfl:=Option.some.inj e
  refine e1a1 (h5.get hv) fun v g1 g2=>?_
  exact get_own F ok.X (⟨h3,rfl,rfl,h4⟩:InstAt s.heap a (instObj Cl dx) Cl (some (dictOf ds nn))) K.get K.dict ha hn g1 (hp _ _ g2) (bk W v s.heap _ (.refl _) R g2)
theorem Zoa {Cl:Addr} {es:List (Str × PV)} {n:Str} {p:PV} {attr:Option Value} (hv:lk n es = some p) (K:ZgL C.K Cl)
    (ha:findIn C.K (.ref Cl) n = some attr) (hn:noGet C.K attr = true) (hp:Handed p):GaJ C k fi σ (.obj Cl es) n p σ:=by
  intro fd W s va Q E ok R V bk
  refine e1a1 R.fr fun m F lc=>?_
  apply VRel.obj_e V; intro a dx ds nn z1 z2 r
  refine e1a1 (r.get hv) fun v g1 g2=>?_
  exact get_own F ok.X (⟨(R.frz _ z1).1,rfl,rfl,(R.frz _ z2).1⟩:InstAt s.heap a (instObj Cl dx) Cl (some (dictOf ds nn))) K.get K.dict ha hn g1 (hp _ _ g2) (bk W v s.heap _ (.refl _) R g2)
theorem Zmn {i d:Nat} {Cl f:Addr} {es:List (Str × PV)} {n:Str} (hi:σ.H[i]? = some (.inst Cl d)) (hd:σ.H[d]? = some (.attrs es)) (hv:lk n es = none) (K:ZgL C.K Cl)
    (hf:findIn C.K (.ref Cl) n = some (some (.ref f))) (ht:isFn C.K (.ref f) = true):MeJ C k fi σ (.ref i) n (.ref f) [.ref i]:=by
  intro fd W s va pl Q E ok R V bk
  refine e4a4 (R.inst hi hd) fun a dx ds nn h1 h2 h3 h4 h5=>?_
  refine e1a1 R.fr fun m F lc=>?_
  apply VRel.ref_e V; intro _ e
  rw [h1] at e; obtain rfl:=Option.some.inj e
  exact method_inst F ok.X (⟨h3,rfl,rfl,h4⟩:InstAt s.heap a (instObj Cl dx) Cl (some (dictOf ds nn))) K.get hf ht (h5.getN hv) (bk W _ s.heap s.toks (.refl _) R ⟨rfl,.cons (.ref h1) .nil⟩)
theorem Zn5 {Cl f:Addr} {es:List (Str × PV)} {n:Str} (hv:lk n es = none) (K:ZgL C.K Cl)
    (hf:findIn C.K (.ref Cl) n = some (some (.ref f))) (ht:isFn C.K (.ref f) = true):MeJ C k fi σ (.obj Cl es) n (.ref f) [.obj Cl es]:=by
  intro fd W s va pl Q E ok R V bk
  refine e1a1 R.fr fun m F lc=>?_
  have V':=V
  revert V'; apply VRel.obj_e V; intro a dx ds nn z1 z2 r V'
  exact method_inst F ok.X (⟨(R.frz _ z1).1,rfl,rfl,(R.frz _ z2).1⟩:InstAt s.heap a (instObj Cl dx) Cl (some (dictOf ds nn))) K.get hf ht (r.getN hv) (bk W _ s.heap s.toks (.refl _) R ⟨rfl,.cons V' .nil⟩)
theorem Zma {i d:Nat} {Cl:Addr} {es es':List (Str × PV)} {n:Str} {p:PV} (hi:σ.H[i]? = some (.inst Cl d)) (hd:σ.H[d]? = some (.attrs es)) (K:ZgL C.K Cl) (ht:takerIn C.K Cl n = some none)
    (he:stl n p es = es') (hz:es'.length <= 1000):SaJ C k fi σ (.ref i) n p { σ with H:=σ.H.set d (.attrs es') }:=by
  intro fd W s va vu Q E ok R V U bk
  refine e4a4 (R.inst hi hd) fun a dx ds nn h1 h2 h3 h4 h5=>?_
  refine e1a1 R.fr fun m F lc=>?_
  apply VRel.ref_e V; intro _ e
  rw [h1] at e; obtain rfl:=Option.some.inj e
  refine e2a2 (R.split h2 hd (by intro e; cases e) h4) fun pre post sp p1 p2=>?_
  subst he
  have hput:=h5.put (n:=n) U (PyData.keyHash C.w.params n) (s.toks + 1)
  have N:=R.news
  rw [sp] at N
  have I:InstAt s.heap a (instObj Cl dx) Cl (some (dictOf ds nn)):=⟨h3,rfl,rfl,h4⟩
  refine set_plain (ok.X.keeps F.keep) I K.set (osa_dict (s:={ s with toks:=s.toks + 1 }) (m:=m) (n:=putN n ds nn) F N (ok.X.keeps F.keep) I rfl K.over ht K.dict (by rw [lookIn_dict]; exact h5.getS) p1 p2 (putName_dict _ _ _ _ _ _) rfl (by rw [<- hput.length]; exact hz) fun h' F' N'=>?_)
  refine bk W () h' _ (.refl _) (R.turned h2 hd (by intro e; cases e) sp (fun m' Fm=>?_) N' (.attrs hput)) trivial
  have e:m' = m:=by
    refine e3a3 Fm.ns fun o es ep a1 a2 a3 a4=>?_
    refine e3a3 F.ns fun o' es' ep' b1 b2 b3 b4=>?_
    rw [a1] at b1; obtain rfl:=Option.some.inj b1
    rw [a2] at b2; cases b2
    funext y; rw [<- a4,<- b4]
  rw [e]; exact F'
end
section
variable {C:Cx} {k:Nat} {fi:Fi} {σ σ₁ σ₂ σ₃ σ':St}
noncomputable abbrev Fd.at (fd:Fd) (dp un:Nat) (gd:Option (List Code)):Fd:={ fd with dp:=dp,un:=un,gd:=gd }
theorem RelF.at' {fd:Fd} {W:Wd} {σ:St} {h:Heap} (R:RelF fd W σ h) (dp un:Nat) (gd:Option (List Code)):RelF (fd.at dp un gd) W σ h:=⟨R.fr,R.len,R.nd,R.obj,R.frz,R.cel,R.cen,R.cec,R.dn⟩
theorem RelF.at_back {fd:Fd} {W:Wd} {σ:St} {h:Heap} {dp un:Nat} {gd:Option (List Code)} (R:RelF (fd.at dp un gd) W σ h):RelF fd W σ h:=⟨R.fr,R.len,R.nd,R.obj,R.frz,R.cel,R.cen,R.cec,R.dn⟩
theorem OkF.at' {fd:Fd} (ok:OkF C (k + 1) fi fd) {dp un:Nat} {gd:Option (List Code)} (hd:dp <= fd.dp + 10) (hu:un <= fd.un + 100):OkF C k fi (fd.at dp un gd):=
  ⟨ok.B,ok.X,ok.T,ok.kf,ok.kc,by rcases ok.hn with e | e; exact .inl e; exact absurd e (Nat.succ_ne_zero _),by have:=ok.dp; show dp + 10 * k < 990; lia,by have:=ok.un; show un + 100 * k < 9000; lia,.inl (by rcases ok.ho with e | e <;> lia)⟩
theorem Zf5 {Cl fI:Addr} {args:List PV} {H H₁:List AObj} (hm:makesIn C.K Cl = true) (hi:findIn C.K (.ref Cl) "__init__" = some (some (.ref fI))) (hf:isFn C.K (.ref fI) = true)
    (hinit:CodeJ C k (.ref fI) (.ref (H.length + 1) :: args) (H ++ [.attrs [],.inst Cl H.length]) .none H₁):CallJ C (k + 1) (.ref Cl) args H (.ref (H.length + 1)) H₁:=by
  intro fi loc cm ci cc fd W s vs Q E ok R V bk
  refine e1a1 R.fr fun m F lc=>?_
  have N:=R.news
  refine call_cls (K:=C.K) (m:=m) F ok.X N hm hi hf fun x dx h' F' N' hlt hdx=>?_
  have hx:=N' _ (.head _)
  have hdxo:=N' _ (.tail _ (.head _))
  have R0:Rl fd W ⟨loc,cm,H,ci,cc⟩ h':=R.carry (fd':=fd) F' lc (fun p hp=>N' p (.tail _ (.tail _ hp))) R.cel R.cen R.cec
  have nin:∀ b,b ∈ W.adr -> b < dx:=fun b hb=>by
    rw [<- Wd.led_map W s.heap] at hb
    refine e1a1 (List.mem_map.mp hb) fun p hp hqa=>?_; subst hqa
    exact hlt p hp
  have R1:=R0.own (o:=.attrs []) hdxo.1 hdxo.2.1 hdxo.2.2 (fun q=>Nat.lt_irrefl _ (nin _ q)) (.attrs (ds:=[]) (n:=0) .nil)
  have l1:=Wd.le_push W dx
  have R2:=R1.own (o:=.inst Cl H.length) (a:=x) hx.1 hx.2.1 hx.2.2 (fun q=>by
    rcases List.mem_append.mp q with q | q
    . rcases List.mem_append.mp q with q | q
      . exact Nat.lt_irrefl _ (Nat.lt_trans (nin x (List.mem_append_left _ q)) hdx)
      . simp at q; subst q; exact Nat.lt_irrefl _ hdx
    . exact Nat.lt_irrefl _ (Nat.lt_trans (nin x (List.mem_append_right _ q)) hdx)) (.inst (Wd.push_at W dx R.len.symm))
  have l2:=l1.trans (Wd.le_push (W.push dx) x)
  have eH:(H ++ [.attrs []]) ++ [.inst Cl H.length] = H ++ [.attrs [],.inst Cl H.length]:=by simp
  have R2:Rl fd ((W.push dx).push x) ⟨loc,cm,(H ++ [.attrs []]) ++ [.inst Cl H.length],ci,cc⟩ h':=R2
  rw [eH] at R2
  have hxr:VRel ((W.push dx).push x) (.ref (H.length + 1)) (.ref x):=.ref (Wd.push_at _ _ (by show H.length + 1 = (W.φ ++ [dx]).length; rw [List.length_append,R.len]; rfl))
  refine codeAny_mono (hinit fi loc cm ci cc (fd.at _ _ _) ((W.push dx).push x) { s with heap:=h' } (.ref x :: vs) (fun v s'=>v = .none /\ Q (.ref x) s') E (ok.at' ?_ ?_) (R2.at' _ _ _) (.cons hxr (VRels.mono l2 V)) fun W3 v h3 t3 l3 R3 V3=>?_) (fun r s' z=>?_)
  . exact Nat.add_le_add_left (Nat.le_of_ble_eq_true (by kernel_rfl)) _
  . exact Nat.add_le_add_left (Nat.le_of_ble_eq_true (by kernel_rfl)) _
  . apply VRel.none_e V3
    exact ⟨rfl,bk W3 _ h3 t3 (l2.trans l3) R3.at_back (VRel.mono l3 hxr)⟩
  . rcases r with e | (v | _ | _ | _) <;> first | exact z | exact z.elim
theorem Zj6 {Cl fI:Addr} {args:List PV} {H:List AObj} {es:List (Str × PV)} (hm:makesIn C.K Cl = true) (hi:findIn C.K (.ref Cl) "__init__" = some (some (.ref fI))) (hf:isFn C.K (.ref fI) = true)
    (hinit:CodeJ C k (.ref fI) (.ref (H.length + 1) :: args) (H ++ [.attrs [],.inst Cl H.length]) .none (H ++ [.attrs es,.inst Cl H.length])) (hl:PV.lims H.length args = true -> PV.limA H.length es = true):CallJ C (k + 1) (.ref Cl) args H (.obj Cl es) H:=by
  intro fi loc cm ci cc fd W s vs Q E ok R V bk
  have A0:PV.lims H.length args = true:=by have:=VRels.lim V; rw [R.len] at this; exact this
  refine Zf5 hm hi hf hinit fi loc cm ci cc fd W s vs Q E ok R V fun W1 v h1 t1 l1 R1 V1=>?_
  have e0:(H ++ [AObj.attrs es,AObj.inst Cl H.length])[H.length + 1]? = some (.inst Cl H.length):=by simp
  have e1:(H ++ [AObj.attrs es,AObj.inst Cl H.length])[H.length]? = some (.attrs es):=by simp
  refine e4a4 (R1.inst e0 e1) fun a dx ds n g1 g2 g3 g4 g5=>?_
  apply VRel.ref_e V1; intro _ e
  rw [g1] at e; obtain rfl:=Option.some.inj e
  refine e0a1 (R1.freeze g1 g3) fun l2 R2=>?_
  refine e0a1 (R2.freeze (i:=H.length) g2 g4) fun l3 R3=>?_
  have lim0:∀ x v,lk x loc = some v -> PV.lim H.length v = true:=fun x v e=>by
    refine e1a1 R.fr fun m F lc=>?_
    refine e1a1 (lc x v e) fun v' _ z=>?_
    have:=VRel.lim z
    rw [R.len] at this; exact this
  have c1:W.le (((W1.frz a (instObj Cl dx)).frz dx (dictOf ds n)).cut H.length):=Wd.le_cut ((l1.trans l2).trans l3) (Nat.le_of_eq R.len)
  have R4:=RelF.cut R3 (n:=H.length) (H':=H) (loc':=loc) (cm':=cm) (ci':=ci) (cc':=cc) (by simp [List.set_append]) rfl (ZjN R) (fun x v e=>⟨e,lim0 x v e⟩)
    (fun x i e=>⟨e,by refine e1a1 (R.cel x i e) fun c _ z=>?_; have:=(List.getElem?_eq_some_iff.mp z).1; rw [R.len] at this; exact this⟩)
    (fun i e=>⟨e,by have:=(List.getElem?_eq_some_iff.mp (R.cen i e)).1; rw [R.len] at this; exact this⟩)
    (fun x i e=>⟨e,by refine e1a1 (R.cec x i e) fun c _ z=>?_; have:=(List.getElem?_eq_some_iff.mp z).1; rw [R.len] at this; exact this⟩)
  refine bk _ _ h1 t1 c1 R4 (VRel.cut (n:=H.length) (.obj (dx:=dx) (ds:=ds) (n:=n) (.tail _ (.head _)) (.head _) (ARel.mono (l2.trans l3) g5)) ?_)
  exact hl A0
end
inductive LstAt (σ:St):PV -> List PV -> Prop
  | fz (xs:List PV):LstAt σ (.lst xs) xs
  | led {i:Nat} {xs:List PV}:σ.H[i]? = some (.list xs) -> LstAt σ (.ref i) xs
theorem LstAt.at {fd:Fd} {W:Wd} {σ:St} {h:Heap} {p:PV} {xs:List PV} {v:Value} (L:LstAt σ p xs) (R:RelF fd W σ h) (V:VRel W p v) :
    ∃ a vs n,v = .ref a /\ h.get? a = some (lstO vs n) /\ VRels W xs vs:=by
  cases L with
  | fz=>
    apply VRel.lst_e V; intro _ _ _ z r
    exact ⟨_,_,_,rfl,(R.frz _ z).1,r⟩
  | led e=>
    apply VRel.ref_e V; intro _ e'
    refine e1a3 (R.obj _ _ _ e' e) fun o h1 _ _ h2=>?_
    refine e2a1 (ORel.list_i h2) fun _ _ hqa r=>?_; subst hqa
    exact ⟨_,_,_,rfl,h1,r⟩
theorem Zv {h:Heap} {a:Addr} {vs:List Value} {n:Nat} (e:h.get? a = some (lstO vs n)):h.IsList a vs.toArray:=⟨_,e,rfl,n,rfl⟩
theorem Zcf {fd:Fd} {W:Wd} {σ:St} {h:Heap} {xs:List PV} {v:Value} (R:RelF fd W σ h) (V:VRel W (.tup xs) v):∃ a vs,v = .ref a /\ IsTup h a vs.toArray /\ VRels W xs vs:=by
  apply VRel.tup_e V; intro _ _ _ _ z c d r
  exact ⟨_,_,rfl,⟨_,(R.frz _ z).1,c,_,d⟩,r⟩
noncomputable abbrev ZJ (sl:Expr):Prop:=∀ va vi,subscripted sl false va vi = operate [va,vi] (getItem va vi)
section
variable {C:Cx} {k:Nat} {fi:Fi} {σ σ₁ σ₂ σ₃ σ':St}
theorem Zfc {value sl:Expr} {p x:PV} {xs:List PV} {i:Int} (L:LstAt σ p xs) (h0:0 <= i) (hf:i < 2 ^ 63) (hx:xs[i.toNat]? = some x) (hs:ZJ sl:=by intro _ _; rfl):SbJ C k fi σ value sl p (.int i) x σ:=by
  intro fd W s va vi Q E ok R V U bk
  refine e3a2 (L.at R V) fun a vs n hqa h1 h2=>?_; subst hqa
  apply VRel.int_e U; intro _
  refine e1a1 (h2.get hx) fun y e1 e2=>?_
  exact tail_any (Zv h1).typeIs slot_list_getitem.lookup (wpAny_getItem_list (Zv h1) h0 hf (by simpa using e1) (bk W y s.heap s.toks (.refl _) R e2)) (hs _ _)
theorem Zam {value sl:Expr} {x:PV} {xs:List PV} {i:Int} {j:Nat} (hlo:-(2 ^ 63) <= i) (hf:i < 2 ^ 63) (hj:seqIndex? i xs.length = some j) (hx:xs[j]? = some x) (hs:ZJ sl:=by intro _ _; rfl):SbJ C k fi σ value sl (.tup xs) (.int i) x σ:=by
  intro fd W s va vi Q E ok R V U bk
  refine e2a2 (Zcf R V) fun a vs hqa h1 h2=>?_; subst hqa
  apply VRel.int_e U; intro _
  refine e1a1 (h2.get hx) fun y e1 e2=>?_
  exact item_tupleT h1 hlo hf (by rw [<- VRels.length h2]; exact hj) e1 (bk W y s.heap s.toks (.refl _) R e2) (hs _ _)
theorem ZfV {value sl:Expr} {x:Str} {i:Int} (hr:fitsSsize i = true) (h1:-(x.length:Int) <= i) (h2:i < x.length) (hs:ZJ sl:=by intro _ _; rfl):SbJ C k fi σ value sl (.str x) (.int i) (.str (Txt.item x i)) σ:=by
  intro fd W s va vi Q E ok R V U bk
  apply VRel.str_e V; intro _; apply VRel.int_e U; intro _
  obtain ⟨T,id,g1,g2,g3⟩:=SB.item (prog:=C.prog) (w:=C.w) (A:=fd.A fi) (E:=E) (u:=_) (t:=_) (s:=s) (Q:=Q) hr (charAt_isSome h1 h2) (bk W _ s.heap _ (.refl _) R (.str _ _))
  exact tail_any g2 g1 g3 (hs _ _)
end
noncomputable def lkI (k:Int):List (Int × PV) -> Option PV
  | []=>none
  | (a,v) :: r=>if a = k then some v else lkI k r
theorem Zgf {k a:Int} {v:PV} {r:List (Int × PV)}:lkI k ((a,v) :: r) = if a = k then some v else lkI k r:=rfl
noncomputable def putI (k:Int) (v:PV) (es:List (Int × PV)):List (Int × PV):=
  if es.any (fun e=>decide (e.1 = k)) then es.map (fun e=>if e.1 = k then (e.1,v) else e) else es ++ [(k,v)]
theorem DRel.find {W:Wd} {k:Int} {es:List (Int × PV)} {kvs:List (Int × Value)} (h:DRel W es kvs):(∀ p,lkI k es = some p -> ∃ v,valueAt kvs k = some v /\ VRel W p v) /\ (lkI k es = none -> valueAt kvs k = none):=by
  induction h with
  | nil=>exact ⟨fun p e=>nse e,fun _=>rfl⟩
  | @cons x _ _ _ _ a r ih=>
    refine e0a1 ih fun h1 h2=>?_
    simp only [Zgf,valueAt,List.find?_cons]
    by_cases q:x = k
    . subst q; simp; exact a
    . simp only [q,if_false,decide_false]; exact ⟨h1,h2⟩
theorem DRel.any {W:Wd} {k:Int} {es:List (Int × PV)} {kvs:List (Int × Value)} (h:DRel W es kvs):es.any (fun e=>decide (e.1 = k)) = kvs.any (fun e=>decide (e.1 = k)):=by
  induction h with
  | nil=>rfl
  | cons a r ih=>simp only [List.any_cons,ih]
theorem DRel.mapPut {W:Wd} {k:Int} {p:PV} {v:Value} (hv:VRel W p v) {es:List (Int × PV)} {kvs:List (Int × Value)} (h:DRel W es kvs):DRel W (es.map (fun e=>if e.1 = k then (e.1,p) else e)) (kvs.map (fun e=>if e.1 = k then (e.1,v) else e)):=by
  induction h with
  | nil=>exact .nil
  | @cons x _ _ _ _ a r ih=>
    simp only [List.map_cons]
    by_cases q:x = k
    . simp only [q,if_true]; exact .cons hv ih
    . simp only [q,if_false]; exact .cons a ih
theorem DRel.append {W:Wd} {es fs:List (Int × PV)} {kvs ws:List (Int × Value)} (h:DRel W es kvs) (h':DRel W fs ws):DRel W (es ++ fs) (kvs ++ ws):=by
  induction h with
  | nil=>exact h'
  | cons a _ ih=>exact .cons a ih
theorem DRel.put {W:Wd} {k:Int} {p:PV} {v:Value} (hv:VRel W p v) {es:List (Int × PV)} {kvs:List (Int × Value)} (h:DRel W es kvs):DRel W (putI k p es) (stored kvs k v):=by
  unfold putI stored
  rw [h.any]
  split
  . exact h.mapPut hv
  . exact h.append (.cons hv .nil)
theorem DRel.length {W:Wd} {es:List (Int × PV)} {kvs:List (Int × Value)} (h:DRel W es kvs):es.length = kvs.length:=by
  induction h with
  | nil=>rfl
  | cons _ _ ih=>exact congrArg (· + 1) ih
theorem Zhb {p p':Program} {w w':World} {es:List DictEntry} {kvs:List (Int × Value)} (h:Pairs (intKind p w) es kvs):Pairs (intKind p' w') es kvs:=by
  induction h with
  | nil=>exact .nil
  | cons a b _ ih=>exact .cons a b ih
theorem IntDict.of {p:Program} {w:World} {o:Obj} {kvs:List (Int × Value)} (h:o.IsDictOf (intKind p w) kvs):IntDict o kvs:=fun p' w'=>by
  refine e2a4 h fun es ep a b c d e=>?_
  exact ⟨es,ep,a,b,c,Zhb d,e⟩
noncomputable def DictAt (σ:St) (i:Nat) (es:List (Int × PV)):Prop:=σ.H[i]? = some (.dict es) ∨ ∃ o,σ.H[i]? = some (.fix (.dict es) o)
theorem DictAt.at {fd:Fd} {W:Wd} {σ:St} {h:Heap} {i:Nat} {es:List (Int × PV)} {v:Value} (D:DictAt σ i es) (R:RelF fd W σ h) (V:VRel W (.ref i) v) :
    ∃ a o kvs,v = .ref a /\ W.φ[i]? = some a /\ h.get? a = some o /\ IntDict o kvs /\ DRel W es kvs /\ (a == sysModules) = false:=by
  apply VRel.ref_e V; intro _ e
  rcases D with q | ⟨o,q⟩
  . refine e1a3 (R.obj _ _ _ e q) fun o' h1 _ _ h2=>?_
    have:=R.dn _ _ _ e q rfl
    refine e1a1 (ORel.dict_i h2) fun _ d r=>?_
    exact ⟨_,_,_,rfl,e,h1,d,r,beq_eq_false_iff_ne.mpr this⟩
  . refine e1a3 (R.obj _ _ _ e q) fun o' h1 _ _ h2=>?_
    have:=R.dn _ _ _ e q rfl
    refine e0a1 (ORel.fix_i h2) fun hqa h9=>?_; subst hqa
    refine e1a1 (ORel.dict_i h9) fun _ d r=>?_
    exact ⟨_,_,_,rfl,e,h1,d,r,beq_eq_false_iff_ne.mpr this⟩
section
variable {C:Cx} {k:Nat} {fi:Fi} {σ σ₁ σ₂ σ₃ σ':St}
theorem Zfd {value sl:Expr} {i:Nat} {es:List (Int × PV)} {kk:Int} {x:PV} (D:DictAt σ i es) (hx:lkI kk es = some x) (hs:ZJ sl:=by intro _ _; rfl):SbJ C k fi σ value sl (.ref i) (.int kk) x σ:=by
  intro fd W s va vi Q E ok R V U bk
  refine e3a5 (D.at R V) fun a o kvs hqa h1 h2 h3 h4 h5=>?_; subst hqa
  apply VRel.int_e U; intro _
  refine e1a1 (h4.find.1 x hx) fun v e1 e2=>?_
  have hd:s.heap.DictOf (intKind C.prog C.w) a kvs:=Heap.dictOf_iff.mpr ⟨o,h2,h3 _ _⟩
  exact tail_any hd.typeIs slot_dict_getitem.lookup (wpAny_getItem_of (intKind_is _ _ _ _) hd.mapOf e1 (bk W v s.heap _ (.refl _) R e2)) (hs _ _)
theorem ZkO {i:Nat} {es:List (Int × PV)} (D:DictAt σ i es):MeJ C k fi σ (.ref i) "get" (.builtin "dict.get") [.ref i]:=by
  intro fd W s va pl Q E ok R V bk
  refine e3a5 (D.at R V) fun a o kvs hqa h1 h2 h3 h4 h5=>?_; subst hqa
  have hd:s.heap.DictOf (intKind C.prog C.w) a kvs:=Heap.dictOf_iff.mpr ⟨o,h2,h3 _ _⟩
  exact getMethod_builtin hd.typeIs PySem.F.plainAttrs_dict PySem.F.slot_dict_get PySem.F.type_dict_get (fun b e=>by
    cases e; refine e2a1 (h3 C.prog C.w) fun es ep q _=>?_; exact ⟨o,h2,q.2.1⟩) (bk W _ s.heap s.toks (.refl _) R ⟨rfl,.cons (.ref h1) .nil⟩)
theorem Zj7 {i:Nat} {es:List (Int × PV)} {kk:Int} {dv x:PV} {H:List AObj} (D:∀ loc cm ci cc,DictAt ⟨loc,cm,H,ci,cc⟩ i es) (hx:(lkI kk es).getD dv = x):CallJ C k (.builtin "dict.get") [.ref i,.int kk,dv] H x H:=by
  intro fi loc cm ci cc fd W s vs Q E ok R V bk
  apply VRels.cons_e V; intro _ _ V1 V
  apply VRels.cons_e V; intro _ _ V2 V
  apply VRels.cons_e V; intro _ _ V3 V
  apply VRels.nil_e V
  refine e3a5 ((D loc cm ci cc).at R V1) fun a o kvs hqa h1 h2 h3 h4 h5=>?_; subst hqa
  apply VRel.int_e V2; intro _
  have hd:s.heap.DictOf (intKind C.prog C.w) a kvs:=Heap.dictOf_iff.mpr ⟨o,h2,h3 _ _⟩
  refine call_meetsIn PySem.F.slot_dict_get hd.typeIs PySem.F.entry_dict_get (PySem.F.args_dict_get_3 _ _ _) (meets_dict_get_default (intKind C.prog C.w) a (intKind_is _ _ _ _) h5 _) ⟨_,hd.mapOf,bk W _ s.heap _ (.refl _) R ?_⟩
  subst hx
  cases q:lkI kk es with
  | none=>rw [h4.find.2 q]; exact V3
  | some p=>refine e1a1 (h4.find.1 p q) fun v e1 e2=>?_; rw [e1]; exact e2
theorem Zl4 {i:Nat} {es:List (Int × PV)} {kk:Int} {x:PV} (D:σ.H[i]? = some (.dict es)) (hz:es.length <= 100000):SiJ C k fi σ (.ref i) (.int kk) x { σ with H:=σ.H.set i (.dict (putI kk x es)) }:=by
  intro fd W s va vi vu Q E ok R V U Y bk
  have D':DictAt σ i es:=.inl D
  refine e3a5 (D'.at R V) fun a o kvs hqa h1 h2 h3 h4 h5=>?_; subst hqa
  apply VRel.int_e U; intro _
  have hd:s.heap.DictOf (intKind C.prog C.w) a kvs:=Heap.dictOf_iff.mpr ⟨o,h2,h3 _ _⟩
  refine wpAny_setItem_pairs (hsz:=by rw [<- h4.length,sizeLine_eq]; lia) (intKind_is _ _ _ _) hd fun h' hm hs=>?_
  refine e1a1 (Heap.dictOf_iff.mp hm) fun o' e1 e2=>?_
  exact bk W () h' _ (.refl _) (R.update h1 D (by intro e; cases e) hs e1 (.dict (.of e2) (h4.put Y)) (fun _=>rfl)) trivial
theorem ZjU {pos:Pos}:Ev C k fi σ (.Dict [] [] pos) (.ref σ.H.length) { σ with H:=σ.H ++ [.dict []] }:=by
  intro fd W s Q E ok R bk
  refine e1a1 R.fr fun m F lc=>?_
  have hbig:=modules_low ok.T.nolimit
  refine wpAny_Dict_empty ?_
  have hd:=Heap.DictOf.new (knd:=intKind C.prog C.w) s.heap
  refine e1a1 (Heap.dictOf_iff.mp hd) fun o ho hd=>?_
  rw [Heap.get?_push_size _ rfl] at ho
  have ho':=(Option.some.inj ho)
  subst ho'
  exact bk (W.push s.heap.objs.size) _ _ s.toks (Wd.le_push _ _) (R.alloc (o:=.dict []) (.dict (.of hd) .nil) rfl (fun _=>by have:=F.notModules hbig; exact beq_eq_false_iff_ne.mp this)) (.ref (Wd.push_at _ _ R.len.symm))
theorem Zl3 {i:Nat} {xs:List PV} {j:Int} {x:PV} (L:σ.H[i]? = some (.list xs)) (h0:0 <= j) (hf:j < 2 ^ 63) (hn:j < xs.length):SiJ C k fi σ (.ref i) (.int j) x { σ with H:=σ.H.set i (.list (xs.set j.toNat x)) }:=by
  intro fd W s va vi vu Q E ok R V U Y bk
  apply VRel.int_e U; intro _
  apply VRel.ref_e V; intro _ e
  refine e1a3 (R.obj _ _ _ e L) fun o h1 _ _ h2=>?_
  refine e2a1 (ORel.list_i h2) fun vs n hqa r=>?_; subst hqa
  refine ki_setAt h1 h0 hf (by simpa [<- VRels.length r] using hn) ?_
  have e1:=Heap.get?_update_self (Obj.mapSeq (·.setIfInBounds j.toNat vu)) h1 rfl
  have e2:∃ n',Obj.mapSeq (·.setIfInBounds j.toNat vu) (lstO vs n) = lstO (vs.set j.toNat vu) n':=⟨_,by simp only [Obj.mapSeq,List.setIfInBounds_toArray]; rfl⟩
  refine e1a0 e2 fun n' e2=>?_
  rw [e2] at e1
  exact bk W () _ _ (.refl _) (R.update e L (by intro e; cases e) (Heap.SameBut.update ..) e1 (.list (VRels.set Y r _))) trivial
theorem Zbv {i:Nat} {xs:List PV} (L:σ.H[i]? = some (.list xs)):MeJ C k fi σ (.ref i) "append" (.builtin "list.append") [.ref i]:=by
  intro fd W s va pl Q E ok R V bk
  have V':=V
  revert V'; apply VRel.ref_e V; intro a e V'
  refine e1a3 (R.obj _ _ _ e L) fun o h1 _ _ h2=>?_
  refine e2a1 (ORel.list_i h2) fun _ _ hqa r=>?_; subst hqa
  exact getMethod_list_append h1 rfl rfl (bk W _ s.heap s.toks (.refl _) R ⟨rfl,.cons V' .nil⟩)
theorem Z6 {i:Nat} {xs:List PV} {x:PV} {H:List AObj} (L:H[i]? = some (.list xs)) (hz:xs.length ≤ 100000):CallJ C k (.builtin "list.append") [.ref i,x] H .none (H.set i (.list (xs ++ [x]))):=by
  intro fi loc cm ci cc fd W s vs Q E ok R V bk
  apply VRels.cons_e V; intro _ _ V1 V
  apply VRels.cons_e V; intro _ _ V2 V
  apply VRels.nil_e V
  apply VRel.ref_e V1; intro _ e
  refine e1a3 (R.obj _ _ _ e L) fun o h1 _ _ h2=>?_
  refine e2a1 (ORel.list_i h2) fun vs n hqa r=>?_; subst hqa
  refine append_at (hsz:=by rw [List.size_toArray,<- VRels.length r,sizeLine_eq]; lia) h1 fun h' hs e1=>?_
  rw [List.push_toArray] at e1
  exact bk W _ h' s.toks (.refl _) (R.update (σ:=⟨loc,cm,H,ci,cc⟩) e L (by intro e; cases e) hs e1 (.list (VRels.append r (.cons V2 .nil)))) .none
theorem ZdL {p:PV} {xs:List PV} {H:List AObj} (L:∀ loc cm ci cc,LstAt ⟨loc,cm,H,ci,cc⟩ p xs) (hz:xs.length ≤ 100000):CallJ C k (.builtin "len") [p] H (.int xs.length) H:=by
  intro fi loc cm ci cc fd W s vs Q E ok R V bk
  apply VRels.cons_e V; intro _ _ V1 V
  apply VRels.nil_e V
  refine e3a2 ((L loc cm ci cc).at R V1) fun a vs n hqa h1 h2=>?_; subst hqa
  refine Calls.call_len_list (Zv h1) (by rw [List.size_toArray,<- VRels.length h2]; lia) ?_
  have:((vs.toArray.size:Nat):Int) = (xs.length:Int):=by rw [List.size_toArray,VRels.length h2]
  rw [this]
  exact bk W _ s.heap _ (.refl _) R (.int _ _)
theorem ZiG {xs:List PV} {H:List AObj} (hz:xs.length ≤ 100000):CallJ C k (.builtin "len") [.tup xs] H (.int xs.length) H:=by
  intro fi loc cm ci cc fd W s vs Q E ok R V bk
  apply VRels.cons_e V; intro _ _ V1 V
  apply VRels.nil_e V
  refine e2a2 (Zcf R V1) fun a vs hqa h1 h2=>?_; subst hqa
  refine PyProof.Rows.len_tuple h1 (by rw [List.size_toArray,<- VRels.length h2]; lia) ?_
  have:((vs.toArray.size:Nat):Int) = (xs.length:Int):=by rw [List.size_toArray,VRels.length h2]
  rw [this]
  exact bk W _ s.heap _ (.refl _) R (.int _ _)
theorem ZbK {p:PV} {xs:List PV} {H:List AObj} (L:∀ loc cm ci cc,LstAt ⟨loc,cm,H,ci,cc⟩ p xs) (hz:xs.length ≤ 100000):CallJ C k (.type "list") [p] H (.lst xs) H:=by
  intro fi loc cm ci cc fd W s vs Q E ok R V bk
  apply VRels.cons_e V; intro _ _ V1 V
  apply VRels.nil_e V
  refine e3a2 ((L loc cm ci cc).at R V1) fun a vs n hqa h1 h2=>?_; subst hqa
  refine e1a1 R.fr fun m F lc=>?_
  refine list_copyK F R.news (Zv h1) (fun D c h' F' N' hlt=>?_) (by rw [List.size_toArray,<- VRels.length h2,sizeLine_eq]; lia)
  have R2:=R.carry (fd':=fd) F' lc (fun p hp=>N' p (.tail _ hp)) R.cel R.cen R.cec
  refine e0a2 (N' _ (.head _)) fun a1 a2 a3=>?_
  obtain ⟨l2,R3,V3⟩:=R2.give_lst (n:=c) a1 a2 a3 (fun q=>by
    refine e1a0 (List.mem_iff_getElem?.mp q) fun i hi=>?_
    have:D ∈ W.adr:=List.mem_append_left _ q
    rw [<- Wd.led_map W s.heap] at this
    refine e1a1 (List.mem_map.mp this) fun p hp e=>?_
    exact Nat.lt_irrefl _ (e ▸ hlt p hp)) h2
  exact bk _ _ h' s.toks l2 R3 V3
theorem ZiF {p:PV} {xs:List PV} {H:List AObj} (L:∀ loc cm ci cc,LstAt ⟨loc,cm,H,ci,cc⟩ p xs) (hz:xs.length ≤ 100000):CallJ C k (.type "list") [p] H (.ref H.length) (H ++ [.list xs]):=by
  intro fi loc cm ci cc fd W s vs Q E ok R V bk
  apply VRels.cons_e V; intro _ _ V1 V
  apply VRels.nil_e V
  refine e3a2 ((L loc cm ci cc).at R V1) fun a vs n hqa h1 h2=>?_; subst hqa
  refine e1a1 R.fr fun m F lc=>?_
  refine list_copyK F R.news (Zv h1) (fun D c h' F' N' hlt=>?_) (by rw [List.size_toArray,<- VRels.length h2,sizeLine_eq]; lia)
  have R2:=R.carry (fd':=fd) F' lc (fun p hp=>N' p (.tail _ hp)) R.cel R.cen R.cec
  refine e0a2 (N' _ (.head _)) fun a1 a2 a3=>?_
  obtain ⟨l2,R3,V3⟩:=R2.give_list (n:=c) a1 a2 a3 (fun q=>by
    rw [<- Wd.led_map W s.heap] at q
    refine e1a1 (List.mem_map.mp q) fun p hp e=>?_
    exact Nat.lt_irrefl _ (e ▸ hlt p hp)) h2
  exact bk _ _ h' s.toks l2 R3 V3
theorem ZgM {p:PV} {xs:List PV} {H:List AObj} (hp:p = .tup xs ∨ ∀ loc cm ci cc,LstAt ⟨loc,cm,H,ci,cc⟩ p xs) (hz:xs.length ≤ 10000):CallJ C k (.type "tuple") [p] H (.tup xs) H:=by
  intro fi loc cm ci cc fd W s vs Q E ok R V bk
  apply VRels.cons_e V; intro _ _ V1 V
  apply VRels.nil_e V
  rcases hp with rfl | L
  . have V1':=V1
    refine e2a2 (Zcf R V1) fun a vs hqa h1 h2=>?_; subst hqa
    exact call_tuple_tup h1 (bk W _ s.heap s.toks (.refl _) R V1')
  . refine e3a2 ((L loc cm ci cc).at R V1) fun a vs n hqa h1 h2=>?_; subst hqa
    refine e1a1 R.fr fun m F lc=>?_
    refine kde_tupleOf F R.news (Zv h1) (by rw [List.size_toArray,<- VRels.length h2]; lia) rfl fun D h' F' N' hlt=>?_
    have R2:=R.carry (fd':=fd) F' lc (fun p hp=>N' p (.tail _ hp)) R.cel R.cen R.cec
    refine e0a2 (N' _ (.head _)) fun a1 a2 a3=>?_
    obtain ⟨l2,R3,V3⟩:=R2.give_tup (n:=0) (vs:=vs) a1 a2 a3 (fun q=>by
      have:D ∈ W.adr:=List.mem_append_left _ q
      rw [<- Wd.led_map W s.heap] at this
      refine e1a1 (List.mem_map.mp this) fun p hp e=>?_
      exact Nat.lt_irrefl _ (e ▸ hlt p hp)) h2
    exact bk _ _ h' s.toks l2 R3 V3
end
theorem VRels.ofStrs {W:Wd}:∀ (l:List (Str × Tok)),VRels W ((l.map (·.1)).map .str) (strValues l)
  | []=>.nil
  | (x,t) :: l=>.cons (.str x t) (VRels.ofStrs l)
theorem ZbB {W:Wd}:∀ {ss:List Str} {vs:List Value},VRels W (ss.map .str) vs -> StrsAre vs ss:=fun {ss}=>by
  induction ss with
  | nil=>intro vs h; apply VRels.nil_e h; exact .nil
  | cons x ss ih=>intro vs h; apply VRels.cons_e h; intro v vs a r; apply VRel.str_e a; intro t; exact .cons x t (ih r)
theorem VRels.reverse {W:Wd} {p:List PV} {v:List Value} (h:VRels W p v):VRels W p.reverse v.reverse:=
  h.ind (P2:=fun p v=>VRels W p.reverse v.reverse) .nil fun _ _ _ _ a _ ih=>by simp only [List.reverse_cons]; exact VRels.append ih (.cons a .nil)
section
variable {fd:Fd} {W:Wd} {σ:St} {h:Heap}
theorem RelF.newLst (R:RelF fd W σ h) {m:Str -> Option Value} {h':Heap} {D:Addr} {vs:List Value} {n:Nat} {xs:List PV} (F':Fr fd.b fd.L h' m) (lc:∀ x v,lk x σ.loc = some v -> ∃ v',m x = some v' /\ VRel W v v')
    (N':News fd.b fd.L h' ((D,lstO vs n) :: W.led h)) (hD:D ∉ W.adr) (V:VRels W xs vs):W.le (W.frz D (lstO vs n)) /\ RelF fd (W.frz D (lstO vs n)) σ h' /\ VRel (W.frz D (lstO vs n)) (.lst xs) (.ref D):=by
  have R2:=R.carry (fd':=fd) F' lc (fun p hp=>N' p (.tail _ hp)) R.cel R.cen R.cec
  refine e0a2 (N' _ (.head _)) fun a1 a2 a3=>?_
  exact R2.give_lst a1 a2 a3 (fun q=>hD (List.mem_append_left _ q)) V
theorem Zdh {W:Wd} {h:Heap} {D:Addr} (hlt:∀ p ∈ W.led h,p.1 < D):D ∉ W.adr:=fun q=>by
  rw [<- Wd.led_map W h] at q
  refine e1a1 (List.mem_map.mp q) fun p hp e=>?_
  exact Nat.lt_irrefl _ (e ▸ hlt p hp)
end
section
variable {C:Cx} {k:Nat} {fi:Fi} {σ σ₁ σ₂ σ₃ σ':St}
theorem ZjL {x:Str}:MeJ C k fi σ (.str x) "split" (.builtin "str.split") [.str x]:=by
  intro fd W s va pl Q E ok R V bk
  have V':=V
  revert V'; apply VRel.str_e V; intro _ V'
  with_reducible refine getMethod_builtin (typeIs_str _ _ _) PySem.F.plainAttrs_str PySem.F.slot_str_split PySem.F.type_str_split (fun b e=>by cases e) ?_
  exact bk W _ s.heap s.toks (.refl _) R ⟨rfl,.cons V' .nil⟩
theorem Zig {x:Str}:MeJ C k fi σ (.str x) "find" (.builtin "str.find") [.str x]:=by
  intro fd W s va pl Q E ok R V bk
  have V':=V
  revert V'; apply VRel.str_e V; intro _ V'
  with_reducible refine getMethod_builtin (typeIs_str _ _ _) PySem.F.plainAttrs_str PySem.F.slot_str_find PySem.F.type_str_find (fun b e=>by cases e) ?_
  exact bk W _ s.heap s.toks (.refl _) R ⟨rfl,.cons V' .nil⟩
theorem Zav {x y:Str} {H:List AObj} {ss:List Str} (hy:(y.length == 0) = false) (hz:x.length + 2 ≤ 100000) (e:Txt.split x y = ss):CallJ C k (.builtin "str.split") [.str x,.str y] H (.lst (ss.map .str)) H:=by
  intro fi loc cm ci cc fd W s vs Q E ok R V bk
  apply VRels.cons_e V; intro _ _ V1 V
  apply VRels.cons_e V; intro _ _ V2 V
  apply VRels.nil_e V; apply VRel.str_e V1; intro _; apply VRel.str_e V2; intro _
  refine e1a1 R.fr fun m F lc=>?_
  refine KSpl.split1 F R.news hy (fun D l h' k e' _ F' N' hlt=>?_) (by rw [sizeLine_eq]; lia)
  refine e0a2 (R.newLst (xs:=(l.map (·.1)).map .str) F' lc N' (Zdh hlt) (VRels.ofStrs l)) fun l2 R3 V3=>?_
  rw [e',e] at V3
  exact bk _ _ h' k l2 R3 V3
theorem ZcF {x:Str} {H:List AObj} {ss:List Str} (hz:x.length + 2 ≤ 100000) (e:Txt.words x = ss):CallJ C k (.builtin "str.split") [.str x] H (.lst (ss.map .str)) H:=by
  intro fi loc cm ci cc fd W s vs Q E ok R V bk
  apply VRels.cons_e V; intro _ _ V1 V
  apply VRels.nil_e V; apply VRel.str_e V1; intro _
  refine e1a1 R.fr fun m F lc=>?_
  refine KSpl.split0 F R.news (fun D l h' k e' _ F' N' hlt=>?_) (by rw [sizeLine_eq]; lia)
  refine e0a2 (R.newLst (xs:=(l.map (·.1)).map .str) F' lc N' (Zdh hlt) (VRels.ofStrs l)) fun l2 R3 V3=>?_
  rw [e',e] at V3
  exact bk _ _ h' k l2 R3 V3
theorem ZiH {x y:Str} {i:Int} {H:List AObj} (e:(Txt.find x y:Int) = i):CallJ C k (.builtin "str.find") [.str x,.str y] H (.int i) H:=by
  intro fi loc cm ci cc fd W s vs Q E ok R V bk
  apply VRels.cons_e V; intro _ _ V1 V
  apply VRels.cons_e V; intro _ _ V2 V
  apply VRels.nil_e V; apply VRel.str_e V1; intro _; apply VRel.str_e V2; intro _
  exact KXw.find e fun t' k=>bk W _ s.heap k (.refl _) R (.int _ _)
theorem Zj5 {i:Int} {H:List AObj} (ha:i.natAbs.log2 < 1920):CallJ C k (.type "str") [.int i] H (.str (Str.ofString (toString i))) H:=by
  intro fi loc cm ci cc fd W s vs Q E ok R V bk
  apply VRels.cons_e V; intro _ _ V1 V
  apply VRels.nil_e V; apply VRel.int_e V1; intro _
  exact P.str_of_int ha (bk W _ s.heap _ (.refl _) R (.str _ _))
theorem ZA {b:Int} {H:List AObj}:CallJ C k (.type "range") [.int b] H (.rng 0 b 1) H:=by
  intro fi loc cm ci cc fd W s vs Q E ok R V bk
  apply VRels.cons_e V; intro _ _ V1 V
  apply VRels.nil_e V; apply VRel.int_e V1; intro _
  refine e1a1 R.fr fun m F lc=>?_
  refine range1_rows F R.news fun h' tk t₁ u₁ v₁ hr F' N' hk=>?_
  have R2:=R.carry (fd':=fd) F' lc N' R.cel R.cen R.cec
  have R3:=R2.ice (a:=s.heap.objs.size) hr (Nat.ne_of_gt R.frL) R.bnew (fun i e=>absurd (R.lt (List.mem_of_getElem? e)) (Nat.lt_irrefl _))
  exact bk _ _ h' tk (Wd.le_frz _ _ _) R3 (.rng (Wd.frz_at _ _ _))
theorem ZcH {a b:Int} {H:List AObj}:CallJ C k (.type "range") [.int a,.int b] H (.rng a b 1) H:=by
  intro fi loc cm ci cc fd W s vs Q E ok R V bk
  apply VRels.cons_e V; intro _ _ V1 V
  apply VRels.cons_e V; intro _ _ V2 V
  apply VRels.nil_e V; apply VRel.int_e V1; intro _; apply VRel.int_e V2; intro _
  refine e1a1 R.fr fun m F lc=>?_
  refine range2_rows F R.news fun h' tk t₁ u₁ v₁ hr F' N' hk=>?_
  have R2:=R.carry (fd':=fd) F' lc N' R.cel R.cen R.cec
  have R3:=R2.ice (a:=s.heap.objs.size) hr (Nat.ne_of_gt R.frL) R.bnew (fun i e=>absurd (R.lt (List.mem_of_getElem? e)) (Nat.lt_irrefl _))
  exact bk _ _ h' tk (Wd.le_frz _ _ _) R3 (.rng (Wd.frz_at _ _ _))
theorem ZaP {a b c:Int} {H:List AObj} (hc:c ≠ 0) (hp:c.natAbs < 1073741824):CallJ C k (.type "range") [.int a,.int b,.int c] H (.rng a b c) H:=by
  intro fi loc cm ci cc fd W s vs Q E ok R V bk
  apply VRels.cons_e V; intro _ _ V1 V
  apply VRels.cons_e V; intro _ _ V2 V
  apply VRels.cons_e V; intro _ _ V3 V
  apply VRels.nil_e V; apply VRel.int_e V1; intro _; apply VRel.int_e V2; intro _; apply VRel.int_e V3; intro _
  refine e1a1 R.fr fun m F lc=>?_
  refine range3_rows F R.news hc (fun h' tk t₁ u₁ v₁ hr F' N' hk=>?_) (.inl (PyProof.noPylong_small hp))
  have R2:=R.carry (fd':=fd) F' lc N' R.cel R.cen R.cec
  have R3:=R2.ice (a:=s.heap.objs.size) hr (Nat.ne_of_gt R.frL) R.bnew (fun i e=>absurd (R.lt (List.mem_of_getElem? e)) (Nat.lt_irrefl _))
  exact bk _ _ h' tk (Wd.le_frz _ _ _) R3 (.rng (Wd.frz_at _ _ _))
theorem ZaI {x:Str} {ss:List Str} {p:PV} (L:LstAt σ p (ss.map .str)):CmpJ C k fi σ .In (.str x) p (ss.any (· == x)) σ:=by
  intro fd W s va vb Q E ok R V U bk
  refine e3a2 (L.at R U) fun a vs n hqa h1 h2=>?_; subst hqa
  apply VRel.str_e V; intro _
  exact in_list_strs (Zv h1) (ZbB h2) (bk W _ s.heap s.toks (.refl _) R rfl)
theorem Zao {x:Str} {ss:List Str} {p:PV} (L:LstAt σ p (ss.map .str)):CmpJ C k fi σ .NotIn (.str x) p (!(ss.any (· == x))) σ:=by
  intro fd W s va vb Q E ok R V U bk
  refine e3a2 (L.at R U) fun a vs n hqa h1 h2=>?_; subst hqa
  apply VRel.str_e V; intro _
  exact notin_list_strs (Zv h1) (ZbB h2) (bk W _ s.heap s.toks (.refl _) R rfl)
theorem ZeB {x:Str} {ss:List Str}:CmpJ C k fi σ .In (.str x) (.tup (ss.map .str)) (ss.any (· == x)) σ:=by
  intro fd W s va vb Q E ok R V U bk
  refine e2a2 (Zcf R U) fun a vs hqa h1 h2=>?_; subst hqa
  apply VRel.str_e V; intro _
  exact in_tuple_strs h1 (by simpa using ZbB h2) (bk W _ s.heap s.toks (.refl _) R rfl)
theorem ZeC {x y:Str}:CmpJ C k fi σ .In (.str y) (.str x) (Txt.contains x y) σ:=by
  intro fd W s va vb Q E ok R V U bk
  apply VRel.str_e V; intro _; apply VRel.str_e U; intro _
  exact SB.contains (bk W _ s.heap s.toks (.refl _) R rfl)
theorem ZdN {p q:PV} {xs ys:List PV} (L:LstAt σ p xs) (M:LstAt σ q ys) (hz:xs.length + ys.length <= 100000):BinJ C k fi σ .Add p q (.lst (xs ++ ys)) σ:=by
  intro fd W s va vb Q E ok R V U bk
  refine e3a2 (L.at R V) fun a vs n hqa h1 h2=>?_; subst hqa
  refine e3a2 (M.at R U) fun b ws n' hqa h3 h4=>?_; subst hqa
  refine e1a1 R.fr fun m F lc=>?_
  refine add_lists (hsz:=by rw [<- VRels.length h2,<- VRels.length h4,sizeLine_eq]; lia) F R.news (Zv h1) (Zv h3) fun h' F' N'=>?_
  refine e0a2 (R.newLst (n:=0) F' lc N' R.size_new (VRels.append h2 h4)) fun l2 R3 V3=>?_
  exact bk _ _ h' s.toks l2 R3 V3
end
theorem foldl_append {α:Type}:∀ (l:List (Array α)) (a:Array α),(l.foldl (fun x y=>x ++ y) a).toList = a.toList ++ (l.map (·.toList)).flatten
  | [],a=>by simp
  | x :: l,a=>by rw [List.foldl_cons,foldl_append l]; simp
theorem VRels.rep {W:Wd} {x:PV} {v:Value} (h:VRel W x v):∀ n:Nat,VRels W (List.replicate n x) (List.replicate n v)
  | 0=>.nil
  | n + 1=>.cons h (VRels.rep h n)
theorem ZbR {α:Type} (x:α):∀ n:Nat,(List.replicate n [x]).flatten = List.replicate n x
  | 0=>rfl
  | n + 1=>by rw [List.replicate_succ,List.flatten_cons,ZbR x n,List.replicate_succ]; rfl
section
variable {C:Cx} {k:Nat} {fi:Fi} {σ σ₁ σ₂ σ₃ σ':St}
theorem Zhi {p x:PV} {n:Int} (L:LstAt σ p [x]) (h0:0 <= n) (hz:n <= 100000) {fd:Fd} {W:Wd} {s:Shared} {va vb:Value} {Q E:Value -> Shared -> Prop} (R:Rl fd W σ s.heap) (V:VRel W p va) (U:VRel W (.int n) vb)
    (bk:∀ h' m y,Fr fd.b fd.L h' m -> (∀ x v,lk x σ.loc = some v -> ∃ v',m x = some v' /\ VRel W v v') -> VRel W x y -> News fd.b fd.L h' ((s.heap.objs.size,lstO (List.replicate n.toNat y) 0) :: W.led s.heap) -> Q (.ref s.heap.objs.size) { s with heap:=h' }) :
    wpAny C.M (fd.A fi) (binaryOp .Mult va vb) Q E s:=by
  refine e3a2 (L.at R V) fun a vs c hqa h1 h2=>?_; subst hqa
  apply VRel.int_e U; intro _
  refine e1a1 R.fr fun m F lc=>?_
  cases h2 with
  | @cons _ y _ _ hx r=>
    cases r
    refine mul_list F R.news h1 (by lia) (by lia) (by simp; lia) fun h' F' N'=>?_
    have e:(List.foldl (fun x1 x2=>x1 ++ x2) #[] (List.replicate (if (#[y]:Array Value).isEmpty = true then 0 else n.toNat) #[y])) = (List.replicate n.toNat y).toArray:=by
      apply Array.toList_inj.mp
      rw [foldl_append]
      simp [List.map_replicate,ZbR]
    have e':([y]:List Value).toArray = #[y]:=rfl
    rw [e',e] at N'
    exact bk h' m y F' lc hx N'
theorem ZdM {p x:PV} {n:Int} (L:LstAt σ p [x]) (h0:0 <= n) (hz:n <= 100000):BinJ C k fi σ .Mult p (.int n) (.lst (List.replicate n.toNat x)) σ:=by
  intro fd W s va vb Q E ok R V U bk
  refine Zhi L h0 hz R V U fun h' m y F' lc hx N'=>?_
  refine e0a2 (R.newLst (n:=0) F' lc N' R.size_new (VRels.rep hx _)) fun l2 R3 V3=>?_
  exact bk _ _ h' s.toks l2 R3 V3
theorem ZmW {p x:PV} {n:Int} (L:LstAt σ p [x]) (h0:0 <= n) (hz:n <= 100000):BinJ C k fi σ .Mult p (.int n) (.ref σ.H.length) { σ with H:=σ.H ++ [.list (List.replicate n.toNat x)] }:=by
  intro fd W s va vb Q E ok R V U bk
  refine Zhi L h0 hz R V U fun h' m y F' lc hx N'=>?_
  have R2:=R.carry (fd':=fd) F' lc (fun p hp=>N' p (.tail _ hp)) R.cel R.cen R.cec
  refine e0a2 (N' _ (.head _)) fun a1 a2 a3=>?_
  refine e0a2 (R2.give_list (n:=0) a1 a2 a3 R.size_new (VRels.rep hx _)) fun l2 R3 V3=>?_
  exact bk _ _ h' s.toks l2 R3 V3
inductive EvP (C:Cx) (k:Nat) (fi:Fi) (σ:St):Option Expr -> Option Int -> Prop
  | none:EvP C k fi σ none none
  | some {e:Expr} {i:Int}:Ev C k fi σ e (.int i) σ -> EvP C k fi σ (some e) (some i)
theorem EvP.run {o:Option Expr} {i:Option Int} (h:EvP C k fi σ o i) {fd:Fd} {W:Wd} {s:Shared} {Q E:Value -> Shared -> Prop} (ok:OkF C k fi fd) (R:Rl fd W σ s.heap)
    (bk:∀ W' v h' tk',W.le W' -> Rl fd W' σ h' -> IsPart v i -> Q v { s with heap:=h',toks:=tk' }):wpAny C.M (fd.A fi) (evalPart o (fd.ev fi)) Q E s:=by
  cases h with
  | none=>exact wpAny_pure (bk W _ s.heap s.toks (.refl _) R .none)
  | some h=>exact h fd W s Q E ok R fun W' v h' tk' l R' V=>by apply VRel.int_e V; intro _; exact bk W' _ h' tk' l R' (.int _ _)
noncomputable def pick {α:Type} (l:List α) (lo hi:Option Int):List α:=(l.drop (kms_lo lo l.length)).take (kms_hi hi l.length - kms_lo lo l.length)
theorem VRels.pick {W:Wd} {xs:List PV} {vs:List Value} (h:VRels W xs vs) (lo hi:Option Int):VRels W (Mine.pick xs lo hi) (kms_pick vs lo hi):=by
  unfold Mine.pick kms_pick
  rw [VRels.length h]
  exact VRels.take (VRels.drop h _) _
theorem ZjR {e:Expr} {lo hi:Option Expr} {p pos:Pos} {v:PV} {xs:List PV} {i j:Option Int} (h:Ev C k fi σ e v σ₁) (L:LstAt σ₁ v xs) (hl:EvP C k fi σ₁ lo i) (hu:EvP C k fi σ₁ hi j) (hz:xs.length <= 100000)
    (hs:∀ va vi,subscripted (.Slice lo hi none p) false va vi = operate [vi,va] (getItem va vi):=by intro _ _; rfl) :
    Ev C k fi σ (e.Subscript (.Slice lo hi none p) pos) (.lst (pick xs i j)) σ₁:=by
  intro fd W s Q E ok R bk
  refine Subscript_ (h fd W s _ E ok R fun W1 v1 g1 t1 l1 R1 V1=>?_)
  refine wpAny_Slice (hl.run (s:={ s with heap:=g1,toks:=t1 }) ok R1 fun W2 v2 g2 t2 l2 R2 P2=>hu.run (s:={ s with heap:=g2,toks:=t2 }) ok R2 fun W3 v3 g3 t3 l3 R3 P3=>wpAny_pure ?_)
  refine e3a2 (L.at R3 (VRel.mono (l2.trans l3) V1)) fun a vs n hqa h1 h2=>?_; subst hqa
  refine e1a1 R3.fr fun m F lc=>?_
  have h1':=Heap.get?_push_of_some { cls:=.type "slice", data:=.fields #[v2,v3,.none] } h1
  refine tail_any (s:={ s with heap:=g3.push { cls:=.type "slice", data:=.fields #[v2,v3,.none] },toks:=t3 }) (Zv h1').typeIs slot_list_getitem.lookup (wpAny_getItem_list_slice (s:={ s with heap:=g3.push { cls:=.type "slice", data:=.fields #[v2,v3,.none] },toks:=t3 }) (Zv h1') ⟨_,Heap.get?_push_size _ rfl,rfl,rfl⟩ P2 P3 .none (by intro e; exact nse e) ?_ (by rw [List.size_toArray,← VRels.length h2,sizeLine_eq]; lia)) (hs _ _)
  rw [kms_pick_eq]
  have R4:=(R3.push { cls:=.type "slice", data:=.fields #[v2,v3,.none] }).fresh (o':=lstO (kms_pick vs i j) 0) rfl
  exact bk _ _ _ t3 ((l1.trans (l2.trans l3)).trans (Wd.le_frz _ _ _)) R4 (.lst (Wd.frz_at _ _ _) (VRels.mono (Wd.le_frz _ _ _) (h2.pick i j)))
theorem Zau {e:Expr} {lo hi:Option Expr} {p pos:Pos} {x:Str} {i j:Option Int} (h:Ev C k fi σ e (.str x) σ₁) (hl:EvP C k fi σ₁ lo i) (hu:EvP C k fi σ₁ hi j) (hz:x.length <= 100000)
    (hs:∀ va vi,subscripted (.Slice lo hi none p) false va vi = operate [vi,va] (getItem va vi):=by intro _ _; rfl) :
    Ev C k fi σ (e.Subscript (.Slice lo hi none p) pos) (.str (Txt.slice x i j)) σ₁:=by
  intro fd W s Q E ok R bk
  refine Subscript_ (h fd W s _ E ok R fun W1 v1 g1 t1 l1 R1 V1=>?_)
  apply VRel.str_e V1; intro _
  refine wpAny_Slice (hl.run (s:={ s with heap:=g1,toks:=t1 }) ok R1 fun W2 v2 g2 t2 l2 R2 P2=>hu.run (s:={ s with heap:=g2,toks:=t2 }) ok R2 fun W3 v3 g3 t3 l3 R3 P3=>wpAny_pure ?_)
  have R4:=R3.push { cls:=.type "slice", data:=.fields #[v2,v3,.none] }
  have fin:∀ t' tk,Q (.str (Txt.slice x i j) t') { s with heap:=g3.push { cls:=.type "slice", data:=.fields #[v2,v3,.none] },toks:=tk }:=fun t' tk=>bk W3 _ _ tk (l1.trans (l2.trans l3)) R4 (.str _ _)
  have hsz:(Txt.slice x i j).length <= sizeLine:=Nat.le_trans (Txt.slice_le x _ _) (by rw [sizeLine_eq]; lia)
  refine tail_any (T := "str") (typeIs_str _ _ _) F.slot_str_getitem.lookup ?_ (hs _ _)
  cases P2 <;> cases P3
  . exact wpAny_getItem_str_slice (l:=none) (u:=none) (st:=none) ⟨_,Heap.get?_push_size _ rfl,rfl,rfl⟩ rfl (post_val_or_str ⟨hsz,fun t' k=>fin t' k⟩)
  . exact wpAny_getItem_str_slice (l:=none) (u:=some (_,_)) (st:=none) ⟨_,Heap.get?_push_size _ rfl,rfl,rfl⟩ rfl (post_val_or_str ⟨hsz,fun t' k=>fin t' k⟩)
  . exact wpAny_getItem_str_slice (l:=some (_,_)) (u:=none) (st:=none) ⟨_,Heap.get?_push_size _ rfl,rfl,rfl⟩ rfl (post_val_or_str ⟨hsz,fun t' k=>fin t' k⟩)
  . exact wpAny_getItem_str_slice (l:=some (_,_)) (u:=some (_,_)) (st:=none) ⟨_,Heap.get?_push_size _ rfl,rfl,rfl⟩ rfl (post_val_or_str ⟨hsz,fun t' k=>fin t' k⟩)
end
structure Turns (prog:Program) (w:World) (A:Around) (target:Expr) (I:Addr) (fp wr:List Addr) (n:Nat) (P Md:Nat -> Value -> Nat -> Heap -> Prop) (St:Nat -> Heap -> Prop):Prop where
  sub:∀ b ∈ wr,b ∈ fp
  frame:∀ i h h',St i h -> (∀ b ∈ fp,∀ o,h.get? b = some o -> h'.get? b = some o) -> St i h'
  live:∀ i h,St i h -> ∀ b ∈ wr,∃ o,h.get? b = some o
  item:∀ i (s:Shared) (Q:Option Value -> Shared -> Prop) (E:Value -> Shared -> Prop),i < n -> St i s.heap ->
    (∀ v h' tk,Md i v s.heap.objs.size h' -> (∀ b o,b ∉ wr -> s.heap.get? b = some o -> h'.get? b = some o) -> Q (some v) { s with heap:=h',toks:=tk }) -> wpAny (model prog w) A (pyNext (.ref I)) Q E s
  go:∀ i v z (s:Shared) (Q:Unit -> Shared -> Prop) (E:Value -> Shared -> Prop),Md i v z s.heap ->
    (∀ h',P i v z h' -> St (i + 1) h' -> (∀ b o,b ∉ wr -> s.heap.get? b = some o -> h'.get? b = some o) -> Q () { s with heap:=h' }) -> wpAny (model prog w) A (letOwnedTupleGo target (.ref I) v) Q E s
  done:∀ (s:Shared) (Q:Option Value -> Shared -> Prop) (E:Value -> Shared -> Prop),St n s.heap ->
    (∀ h' tk,(∀ b o,b ∉ wr -> s.heap.get? b = some o -> h'.get? b = some o) -> Q none { s with heap:=h',toks:=tk }) -> wpAny (model prog w) A (pyNext (.ref I)) Q E s
  self:∀ i (s:Shared) (Q:Value -> Shared -> Prop) (E:Value -> Shared -> Prop),St i s.heap -> Q (.ref I) s -> wpAny (model prog w) A (pyIter (.ref I)) Q E s
theorem Turns.ofWalks {prog:Program} {w:World} {A:Around} {x:Str} {px:Pos} {I:Addr} {fp wr:List Addr} {n:Nat} {P:Nat -> Value -> Prop} {St:Nat -> Heap -> Prop} (W:Walks prog w A I fp wr n P St) (hl:∀ i h,St i h -> ∀ b ∈ wr,∃ o,h.get? b = some o) :
    Turns prog w A (.Name x px) I fp wr n (fun i v _ _=>P i v) (fun i v _ h=>P i v /\ St (i + 1) h) St where
  sub:=W.sub
  frame:=W.frame
  live:=hl
  item:=fun i s Q E hi st hQ=>W.item i s Q E hi st fun v h' tk hP st' hk=>hQ v h' tk ⟨hP,st'⟩ hk
  go:=fun i v z s Q E hm hQ=>by
    show wpAny _ _ (pure ()) _ _ _
    exact wpAny_pure (hQ s.heap hm.1 hm.2 fun _ _ _ e=>e)
  done:=W.done
  self:=W.self
theorem Turns.ofWalksT {prog:Program} {w:World} {A:Around} {elts:List Expr} {k:Nat} {pos:Pos} {I:Addr} {fp wr:List Addr} {n:Nat} {Pt:Nat -> Array Value -> Prop} {St:Nat -> Heap -> Prop} {Mid:Nat -> Addr -> Heap -> Prop} (W:WalksT prog w A I fp wr n Pt St Mid) (hl:∀ i h,St i h -> ∀ b ∈ wr,∃ o,h.get? b = some o) :
    Turns prog w A (.Tuple elts k pos) I fp wr n (fun i v z h=>∃ T vals,v = .ref T /\ Pt i vals /\ h.IsTuple T vals /\ z <= T) (fun i v z h=>∃ T vals,v = .ref T /\ Pt i vals /\ h.IsTuple T vals /\ z <= T /\ Mid i T h) St where
  sub:=W.sub
  frame:=W.frame
  live:=hl
  item:=fun i s Q E hi st hQ=>W.item i s Q E hi st fun T vals h' tk hP hz hT hm hk=>hQ (.ref T) h' tk ⟨T,vals,rfl,hP,hT,hz,hm⟩ hk
  go:=fun i v z s Q E hm hQ=>by
    obtain ⟨T,vals,rfl,hP,hT,hz,hm⟩:=hm
    exact W.go elts k pos i T s Q E hm fun h' st hk=>hQ h' ⟨T,vals,rfl,hP,hT.at fun o e=>hk T o (W.apart i T _ hm) e,hz⟩ st hk
  done:=W.done
  self:=W.self
noncomputable def Gives (W:Wd) (P:Nat -> Value -> Nat -> Heap -> Prop) (items:List PV):Prop:=∀ i p v z h,items[i]? = some p -> P i v z h ->
  VRel W p v ∨ ∃ T xs vs,p = .tup xs /\ v = .ref T /\ z <= T /\ h.IsTuple T (List.toArray vs) /\ VRels W xs vs
noncomputable def Stays (W:Wd) (H:List AObj) (b:Addr):Prop:=(∃ o,(b,o) ∈ W.Z) ∨ ∃ (j:Nat) (a:AObj) (o:Obj),W.φ[j]? = some b /\ H[j]? = some (.fix a o)
inductive ZbI (H:List AObj):PV -> List AObj -> Nat -> List PV -> Prop
  | rng {a b c:Int} {n:Nat}:Builtin.Range.small a b c = true -> Builtin.Range.rangeSize a b c = ((n:Nat):Int) -> ZbI H (.rng a b c) H 1 ((List.range n).map fun i:Nat=>PV.int (a + (i:Int) * c))
  | lst (xs:List PV):ZbI H (.lst xs) H 1 xs
  | zip {H0:List AObj} {xs ys:List PV}:H = H0 ++ [.zO (H0.length + 1),.zT,.zi xs,.zi ys] -> ZbI H (.ref H0.length) H0 4 ((xs.zip ys).map fun p=>PV.tup [p.1,p.2])
  | dict {i:Nat} {es:List (Int × PV)} {o:Obj}:H[i]? = some (.fix (.dict es) o) -> ZbI H (.ref i) H 1 (es.map fun e=>PV.int e.1)
inductive Zem:Nat -> Expr -> Prop
  | name (x:Str) (p:Pos):Zem 1 (.Name x p)
  | pair (elts:List Expr) (n:Nat) (p:Pos):Zem 4 (.Tuple elts n p)
theorem VRels.zip {W:Wd} {xs ys:List PV} {vs ws:List Value} (h:VRels W xs vs) (h':VRels W ys ws):∀ (i:Nat) (p:PV) (x y:Value),((xs.zip ys).map fun p=>PV.tup [p.1,p.2])[i]? = some p -> vs[i]? = some x -> ws[i]? = some y -> ∃ a b,p = PV.tup [a,b] /\ VRel W a x /\ VRel W b y:=by
  revert ys ws
  refine h.ind (P2:=fun xs vs=>∀ {ys:List PV} {ws:List Value},VRels W ys ws -> ∀ (i:Nat) (p:PV) (x y:Value),((xs.zip ys).map fun p=>PV.tup [p.1,p.2])[i]? = some p -> vs[i]? = some x -> ws[i]? = some y -> ∃ a b,p = PV.tup [a,b] /\ VRel W a x /\ VRel W b y) (fun _ i p x y e _ _=>by simp at e) fun a₀ v ps vs a r ih ys ws h' i p x y e e1 e2=>?_
  cases h' with
  | nil=>simp at e
  | @cons b₀ _ _ _ b q=>
    cases i with
    | zero=>simp at e e1 e2; subst e1; subst e2; exact ⟨a₀,b₀,e.symm,a,b⟩
    | succ i=>exact ih q i p x y (by simpa using e) (by simpa using e1) (by simpa using e2)
section
variable {fd:Fd} {W:Wd} {σ:St} {h:Heap}
theorem RelF.holdRaw (R:RelF fd W σ h) {i:Nat} {a:Addr} {o:AObj} {oo:Obj} (hi:W.φ[i]? = some a) (ho:σ.H[i]? = some o) (hd:o ≠ .dead) (ha:h.get? a = some oo) (o₂:AObj) (hr:ORel W o₂ oo) (hk:o₂.isD = true -> o.isD = true):RelF fd W { σ with H:=σ.H.set i o₂ } h:=
  R.update hi ho hd (.refl ..) ha hr hk
end
theorem set4 {α:Type} {a b c d a' b' c' d':α}:∀ (l:List α),((((l ++ [a,b,c,d]).set l.length a').set (l.length + 1) b').set (l.length + 1 + 1) c').set (l.length + 1 + 2) d' = l ++ [a',b',c',d']
  | []=>rfl
  | x :: l=>by simpa [Nat.add_assoc,Nat.add_comm,Nat.add_left_comm] using set4 (a:=a) (b:=b) (c:=c) (d:=d) (a':=a') (b':=b') (c':=c') (d':=d') l
theorem ZiM {h:Heap} {z TI TO i1 i2 l1 l2:Addr} {i:Nat} {xs ys:Array Value} (st:IsZip h z TI TO .none /\ IsPair h TI (.ref i1) (.ref i2) /\ (∃ a b,IsPair h TO a b) /\ h.IsListIter i1 l1 i /\ h.IsListIter i2 l2 i /\ h.IsList l1 xs /\ h.IsList l2 ys) {b:Addr} (hb:b ∈ [z,TO,i1,i2]):∃ o,h.get? b = some o:=by
  obtain ⟨a1,a2,⟨b1,b2,b3⟩,⟨c1,c2,_⟩,⟨d1,d2,_⟩,_⟩:=st
  simp at hb
  rcases hb with rfl | rfl | rfl | rfl
  . exact ⟨_,a1⟩
  . exact ⟨_,b3⟩
  . exact ⟨_,c2⟩
  . exact ⟨_,d2⟩
theorem Zkp {Z:List (Addr × Obj)} {b I l:Addr} {o:Obj} (z:(l,o) ∈ Z) (hb:b ∈ [I,l]) (hn:b ∉ [I]):∃ o,(b,o) ∈ Z:=by
  simp at hb hn
  rcases hb with rfl | rfl
  . exact absurd rfl hn
  . exact ⟨_,z⟩
theorem Zkf {Z:List (Addr × Obj)} {b z TI TO i1 i2 l1 l2:Addr} {o o1 o2:Obj} (h0:(TI,o) ∈ Z) (h1:(l1,o1) ∈ Z) (h2:(l2,o2) ∈ Z) (hb:b ∈ [z,TI,TO,i1,i2,l1,l2]) (hn:b ∉ [z,TO,i1,i2]):∃ o,(b,o) ∈ Z:=by
  simp at hb hn
  rcases hb with rfl | rfl | rfl | rfl | rfl | rfl | rfl
  . exact absurd rfl hn.1
  . exact ⟨_,h0⟩
  . exact absurd rfl hn.2.1
  . exact absurd rfl hn.2.2.1
  . exact absurd rfl hn.2.2.2
  . exact ⟨_,h1⟩
  . exact ⟨_,h2⟩
noncomputable def Zl2 (C:Cx) (fi:Fi) (fd:Fd) (W:Wd) (σ:St) (p:PV) (H0:List AObj) (m:Nat) (items:List PV) (target:Expr) (s:Shared) (Q:Value -> Shared -> Prop):Prop:=
  ∀ (I:Addr) (fp wr:List Addr) (P Md:Nat -> Value -> Nat -> Heap -> Prop) (St:Nat -> Heap -> Prop) (os:List Obj) (h':Heap) (W':Wd),Turns C.prog C.w (fd.A fi) target I fp wr items.length P Md St -> os.length = m -> wr.length = m -> (∀ t b,wr[t]? = some b -> W'.φ[H0.length + t]? = some b) -> (∀ b ∈ fp,b ∉ wr -> Stays W' H0 b) -> ((∀ i,p = .ref i -> m = 4) -> ∀ b ∈ fp,b ∉ wr -> ∃ o,(b,o) ∈ W'.Z) ->
    Gives W' P items -> St 0 h' -> W.le W' -> Rl fd W' { σ with H:=H0 ++ os.map .raw } h' -> Q (.ref I) { s with heap:=h' }
theorem ZdQ {C:Cx} {k:Nat} {fi:Fi} {fd:Fd} {W:Wd} {σ:St} {s:Shared} {p:PV} {H0:List AObj} {m:Nat} {items:List PV} {target:Expr} {v:Value} {Q E:Value -> Shared -> Prop} (S:ZbI σ.H p H0 m items) (hT:Zem m target)
    (ok:OkF C (k + 1) fi fd) (R:Rl fd W σ s.heap) (V:VRel W p v) (hQ:Zl2 C fi fd W σ p H0 m items target s Q):wpAny C.M (fd.A fi) (pyIter v) Q E s:=by
  have hh:(fd.A fi).handled = none:=by
    rcases ok.hn with e | e
    . exact e
    . exact absurd e (Nat.succ_ne_zero _)
  cases S with
  | @rng a b c n hs hn=>
    cases hT with
    | name x px=>
      apply VRel.rng_e V; intro t u v r z
      have hr:IsRange s.heap r a b c t u v:=(R.frz _ z).1
      refine wpAny_pyIter_range hr hs ?_
      rw [hn]
      have R':=R.alloc (o:=.raw _) (o':={ cls:=.type "range_iterator", data:=.fields #[rawInt a,rawInt n,rawInt c] }) (.raw _) rfl
      have hW:W.φ.length = σ.H.length:=R.len
      refine hQ s.heap.objs.size _ [s.heap.objs.size] (fun i v _ _=>∃ t,v = .int (a + i * c) t) _ (fun i h=>IsRangeIter h s.heap.objs.size (a + (i:Nat) * c) ((n:Int) - (i:Nat)) c) [_] _ _ (by simpa using Turns.ofWalks (Walks.range hh s.heap.objs.size a c n) (fun i h st b hb=>by rw [List.mem_singleton.mp hb]; exact ⟨_,st⟩)) rfl rfl (fun t b e=>?_) (fun b hb hn=>absurd hb hn) (fun _ b hb hn=>absurd hb hn) ?_ (by simpa using Heap.get?_push_size _ rfl) (Wd.le_push _ _) R'
      . cases t with
        | zero=>simp at e; subst e; exact Wd.push_at _ _ (by rw [hW]; rfl)
        | succ t=>simp at e
      . rintro i p v z h e ⟨t,rfl⟩
        rw [List.getElem?_map] at e
        cases q:(List.range n)[i]? with
        | none=>rw [q] at e; exact nse e
        | some j=>
          rw [q] at e; obtain rfl:=Option.some.inj e
          have:j = i:=by have:=(List.getElem?_eq_some_iff.mp q).2; simpa using this.symm
          subst this
          exact .inl (.int _ _)
  | lst=>
    cases hT with
    | name x px=>
      apply VRel.lst_e V; intro vs l nn z r
      have hl:=Zv (R.frz _ z).1
      have hlt:l < s.heap.objs.size:=Heap.lt_size (R.frz _ z).1
      refine wpAny_pyIter_list hl ?_
      have R':=R.alloc (o:=.raw _) (o':={ cls:=.type "list_iterator", data:=.fields #[.ref l,.int 0 0] }) (.raw _) rfl
      have hsz:vs.toArray.size = items.length:=by rw [List.size_toArray,VRels.length r]
      refine hQ s.heap.objs.size _ [s.heap.objs.size] (fun i v _ _=>vs.toArray[i]? = some v) _ (fun i h=>h.IsListIter s.heap.objs.size l i /\ h.IsList l vs.toArray) [_] _ _ (by rw [<- hsz]; exact Turns.ofWalks (Walks.list hh s.heap.objs.size l (Nat.ne_of_lt hlt) vs.toArray) (fun i h st b hb=>by rw [List.mem_singleton.mp hb]; refine e1a1 st.1 fun o e _=>?_; exact ⟨o,e⟩)) rfl rfl (fun t b e=>?_) (fun b hb hn=>.inl (Zkp ((Wd.le_push W s.heap.objs.size).Z _ z) hb hn)) (fun _ b hb hn=>Zkp ((Wd.le_push W s.heap.objs.size).Z _ z) hb hn) ?_ ⟨⟨_,Heap.get?_push_size _ rfl,rfl,rfl⟩,hl.push _⟩ (Wd.le_push _ _) R'
      . cases t with
        | zero=>simp at e; subst e; exact Wd.push_at _ _ (by rw [R.len]; rfl)
        | succ t=>simp at e
      . intro i p v z' h e e2
        refine e1a1 (r.get e) fun y g1 g2=>?_
        rw [List.getElem?_toArray,g1] at e2
        obtain rfl:=Option.some.inj e2
        exact .inl (VRel.mono (Wd.le_push _ _) g2)
  | @zip _ xs ys hz=>
    cases hT with
    | pair elts nn tp=>
      have g0:σ.H[H0.length]? = some (.zO (H0.length + 1)):=by rw [hz]; simp
      have g1:σ.H[H0.length + 1]? = some .zT:=by rw [hz]; simp
      have g2:σ.H[H0.length + 2]? = some (.zi xs):=by rw [hz]; simp
      have g3:σ.H[H0.length + 3]? = some (.zi ys):=by rw [hz]; simp
      apply VRel.ref_e V; intro za e0
      refine e1a3 (R.obj _ _ _ e0 g0) fun oz q1 _ _ q2=>?_
      refine e4a4 (ORel.zO_i q2) fun TI TO i1 i2 hqa f1 f2 f3 f4=>?_; subst hqa
      refine e1a3 (R.obj _ _ _ f1 g1) fun oT t1 _ _ t2=>?_
      refine e1a3 (R.obj _ _ _ f2 g2) fun o1 u1 _ _ u2=>?_
      refine e1a3 (R.obj _ _ _ f3 g3) fun o2 w1 _ _ w2=>?_
      refine e2a0 (ORel.zT_i t2) fun ta tb hqa=>?_; subst hqa
      refine e3a3 (ORel.zi_i u2) fun vs l1 n1 y1 y2 y3 y4=>?_
      refine e3a3 (ORel.zi_i w2) fun ws l2 n2 x1 x2 x3 x4=>?_
      have hL1:=Zv (R.frz _ y1).1
      have hL2:=Zv (R.frz _ x1).1
      have ne:∀ {i j:Nat} {a b:Addr},W.φ[i]? = some a -> W.φ[j]? = some b -> i ≠ j -> a ≠ b:=fun {i j a b} e1 e2 hij q=>by
        subst q
        exact hij ((List.getElem?_inj (List.getElem?_eq_some_iff.mp e1).1 R.nd).mp (e1.trans e2.symm))
      have nz:∀ {p:Addr × Obj} {i:Nat} {a:Addr} {o:AObj},p ∈ W.Z -> W.φ[i]? = some a -> σ.H[i]? = some o -> o ≠ .dead -> p.1 ≠ a:=fun {p i a o} e1 e2 e3 hd q=>by
        have:=(R.frz p e1).2.2.2 i (by rw [q]; exact e2)
        rw [e3] at this; obtain rfl:=Option.some.inj this; exact hd rfl
      have D:ZipApart za TI TO i1 i2 l1 l2:={
        TIz:=nz f4 e0 g0 (by intro e; cases e)
        TOz:=ne f1 e0 (by lia)
        i1z:=ne f2 e0 (by lia)
        i2z:=ne f3 e0 (by lia)
        TITO:=nz f4 f1 g1 (by intro e; cases e)
        TIi1:=nz f4 f2 g2 (by intro e; cases e)
        TIi2:=nz f4 f3 g3 (by intro e; cases e)
        TOi1:=ne f1 f2 (by lia)
        TOi2:=ne f1 f3 (by lia)
        i12:=ne f2 f3 (by lia)
        l1z:=nz y1 e0 g0 (by intro e; cases e)
        l1TO:=nz y1 f1 g1 (by intro e; cases e)
        l1i1:=nz y1 f2 g2 (by intro e; cases e)
        l1i2:=nz y1 f3 g3 (by intro e; cases e)
        l2z:=nz x1 e0 g0 (by intro e; cases e)
        l2TO:=nz x1 f1 g1 (by intro e; cases e)
        l2i1:=nz x1 f2 g2 (by intro e; cases e)
        l2i2:=nz x1 f3 g3 (by intro e; cases e) }
      have hz0:IsZip s.heap za TI TO .none:=q1
      refine wpAny_pyIter_zip hz0 ?_
      have hlen:min vs.toArray.size ws.toArray.size = ((xs.zip ys).map fun p=>PV.tup [p.1,p.2]).length:=by simp [VRels.length y2,VRels.length x2]
      let oz:Obj:={ cls:=.type "zip", dict:=none,data:=.fields #[.none,.bool false,.bool false,.ref TI,.ref TO],slots:=#[] }
      let oT:Obj:={ cls:=.type "tuple", data:=.seq #[ta,tb] }
      have R1:=R.holdRaw e0 g0 (by intro e; cases e) q1 (.raw oz) (.raw _) (by intro e; exact ft e)
      have R2:=R1.holdRaw (o:=.zT) f1 (by show (σ.H.set _ _)[_]? = _; rw [List.getElem?_set_ne (by lia)]; exact g1) (by intro e; cases e) t1 (.raw oT) (.raw _) (by intro e; exact ft e)
      have R3:=R2.holdRaw (o:=.zi xs) f2 (by show ((σ.H.set _ _).set _ _)[_]? = _; rw [List.getElem?_set_ne (by lia),List.getElem?_set_ne (by lia)]; exact g2) (by intro e; cases e) u1 (.raw o1) (.raw _) (by intro e; exact ft e)
      have R4:=R3.holdRaw (o:=.zi ys) f3 (by show (((σ.H.set _ _).set _ _).set _ _)[_]? = _; rw [List.getElem?_set_ne (by lia),List.getElem?_set_ne (by lia),List.getElem?_set_ne (by lia)]; exact g3) (by intro e; cases e) w1 (.raw o2) (.raw _) (by intro e; exact ft e)
      have eH:(((σ.H.set H0.length (.raw oz)).set (H0.length + 1) (.raw oT)).set (H0.length + 1 + 1) (.raw o1)).set (H0.length + 1 + 2) (.raw o2) = H0 ++ [oz,oT,o1,o2].map .raw:=by
        rw [hz]
        exact set4 H0
      have R4:Rl fd W { σ with H:=(((σ.H.set H0.length (.raw oz)).set (H0.length + 1) (.raw oT)).set (H0.length + 1 + 1) (.raw o1)).set (H0.length + 1 + 2) (.raw o2) } s.heap:=R4
      rw [eH] at R4
      have T0:=Turns.ofWalksT (prog:=C.prog) (w:=C.w) (elts:=elts) (k:=nn) (pos:=tp) (WalksT.zip2 hh za TI TO i1 i2 l1 l2 D vs.toArray ws.toArray) (fun i h st4 b hb=>ZiM st4 hb)
      rw [hlen] at T0
      refine hQ za _ [za,TO,i1,i2] _ _ _ [oz,oT,o1,o2] s.heap W T0 rfl rfl (fun t b e=>?_) (fun b hb hn=>.inl (Zkf f4 y1 x1 hb hn)) (fun _ b hb hn=>Zkf f4 y1 x1 hb hn) ?_ ⟨hz0,(R.frz _ f4).1,⟨ta,tb,t1⟩,⟨_,u1,y3,y4⟩,⟨_,w1,x3,x4⟩,hL1,hL2⟩ (.refl _) R4
      . match t,e with
        | 0,e=>simp at e; subst e; exact e0
        | 1,e=>simp at e; subst e; exact f1
        | 2,e=>simp at e; subst e; exact f2
        | 3,e=>simp at e; subst e; exact f3
        | t + 4,e=>simp at e
      . rintro i p v z h e ⟨T,vals,rfl,⟨x,y,ex,ey,rfl⟩,hT,hzT⟩
        rw [List.getElem?_toArray] at ex ey
        refine e2a2 (VRels.zip y2 x2 i p x y e ex ey) fun a b hqa ra rb=>?_; subst hqa
        exact .inr ⟨T,[a,b],[x,y],rfl,rfl,hzT,hT,.cons ra (.cons rb .nil)⟩
  | @dict i es o hi=>
    cases hT with
    | name x px=>
      have D:DictAt σ i es:=.inr ⟨o,hi⟩
      apply VRel.ref_e V; intro a e0
      refine e1a3 (R.obj _ _ _ e0 hi) fun o' h1 _ _ h2=>?_
      have hne:=R.dn _ _ _ e0 hi rfl
      refine e0a1 (ORel.fix_i h2) fun hqa h9=>?_; subst hqa
      refine e1a1 (ORel.dict_i h9) fun kvs d r=>?_
      refine e2a4 (d C.prog C.w) fun es' ep d1 d2 d3 d4 d5=>?_
      have hda:s.heap.DictAt (intKind C.prog C.w) a kvs ep:=⟨_,es',h1,d1,d2,d3,d4,d5⟩
      have hlt:a < s.heap.objs.size:=Heap.lt_size h1
      refine wpAny_pyIter_dict (beq_eq_false_iff_ne.mpr hne) hda ?_
      have R':=R.alloc (o:=.raw _) (o':={ cls:=.type "dict_keyiterator", data:=.fields #[.ref a,.int 0 0,.int kvs.length 0,.int ep 0] }) (.raw _) rfl
      refine hQ s.heap.objs.size _ [s.heap.objs.size] _ _ (fun i h=>h.IsKeyIter s.heap.objs.size a i kvs.length ep /\ h.DictAt (intKind C.prog C.w) a kvs ep) [_] _ _ (by rw [List.length_map,r.length]; exact Turns.ofWalks (Walks.dictKeys hh s.heap.objs.size a (Nat.ne_of_lt hlt) kvs ep) (fun i h st b hb=>by rw [List.mem_singleton.mp hb]; refine e1a1 st.1 fun o e _=>?_; exact ⟨o,e⟩)) rfl rfl (fun t b e=>?_) (fun b hb hn=>?_) (fun q=>by have:=q i rfl; cases this) ?_ ⟨⟨_,Heap.get?_push_size _ rfl,rfl,rfl⟩,hda.at' fun o e=>Heap.get?_push_of_some _ e⟩ (Wd.le_push _ _) R'
      . cases t with
        | zero=>simp at e; subst e; exact Wd.push_at _ _ (by rw [R.len]; rfl)
        | succ t=>simp at e
      . simp at hb hn
        rcases hb with rfl | rfl
        . exact absurd rfl hn
        . exact .inr ⟨i,_,_,(Wd.le_push _ _).φ _ _ e0,hi⟩
      . rintro j p v z h e ⟨kk,xx,e2,hk⟩
        refine e1a0 (Value.isInt_shape hk) fun tk hqa=>?_; subst hqa
        have:∀ {es:List (Int × PV)} {kvs:List (Int × Value)},DRel W es kvs -> ∀ (j:Nat) (p:PV) (kk:Int) (xx:Value),(es.map fun e=>PV.int e.1)[j]? = some p -> kvs[j]? = some (kk,xx) -> p = .int kk:=by
          intro es kvs r
          induction r with
          | nil=>intro j p kk xx e; simp at e
          | cons a r ih=>
            intro j p kk xx e e2
            cases j with
            | zero=>simp at e e2; rw [<- e,e2.1]
            | succ j=>exact ih j p kk xx (by simpa using e) (by simpa using e2)
        rw [this r j p kk xx e e2]
        exact .inl (.int _ _)
theorem Zft {H0 post:List AObj} {os:List Obj} {t:Nat} (ht:t < os.length):(H0 ++ os.map AObj.raw ++ post)[H0.length + t]? = some (.raw os[t]):=by
  rw [List.append_assoc,List.getElem?_append_right (Nat.le_add_right _ _),Nat.add_sub_cancel_left,List.getElem?_append_left (by simpa using ht)]
  simp [ht]
theorem Zkj {A B post:List AObj} {i:Nat} (hi:i < A.length):(A ++ B ++ post)[i]? = A[i]?:=by
  rw [List.append_assoc,List.getElem?_append_left hi]
theorem Zne {H0 post:List AObj} {os ps:List Obj} (e:ps.length = os.length) {i:Nat} (hi:H0.length + os.length <= i):(H0 ++ ps.map AObj.raw ++ post)[i]? = (H0 ++ os.map AObj.raw ++ post)[i]?:=by
  have h1:(H0 ++ ps.map AObj.raw).length = (H0 ++ os.map AObj.raw).length:=by rw [List.length_append,List.length_append,List.length_map,List.length_map,e]
  have h2:(H0 ++ os.map AObj.raw).length <= i:=by rw [List.length_append,List.length_map]; exact hi
  rw [List.getElem?_append_right h2,List.getElem?_append_right (h1 ▸ h2),h1]
theorem Zg6 {H0 post:List AObj} {os ps:List Obj} (e:ps.length = os.length) {i:Nat} (hi:i < H0.length ∨ H0.length + os.length <= i):(H0 ++ ps.map AObj.raw ++ post)[i]? = (H0 ++ os.map AObj.raw ++ post)[i]?:=by
  rcases hi with hi | hi
  . rw [Zkj hi,Zkj hi]
  . exact Zne e hi
section
variable {fd:Fd} {W:Wd} {σ:St} {h:Heap}
theorem RelF.rawed {H0 post:List AObj} {os:List Obj} {wr:List Addr} (R:RelF fd W { σ with H:=H0 ++ os.map .raw ++ post } h) (hw:wr.length = os.length) (hφ:∀ t b,wr[t]? = some b -> W.φ[H0.length + t]? = some b)
    {h':Heap} (hk:∀ b o,b ∉ wr -> h.get? b = some o -> h'.get? b = some o) (hl:∀ b ∈ wr,∃ o,h'.get? b = some o) :
    ∃ os':List Obj,os'.length = os.length /\ RelF fd W { σ with H:=H0 ++ os'.map .raw ++ post } h' /\ ∀ (t:Nat) (b:Addr),wr[t]? = some b -> h'.get? b = os'[t]?:=by
  have hat:∀ t b,wr[t]? = some b -> ∃ o,h.get? b = some o /\ b ≠ fd.L /\ fd.b.get? b = none:=fun t b e=>by
    have ht:t < os.length:=by rw [<- hw]; exact (List.getElem?_eq_some_iff.mp e).1
    obtain ⟨o',h1,h2,h3,_⟩:=R.obj (H0.length + t) b (.raw os[t]) (hφ t b e) (Zft ht)
    exact ⟨o',h1,h2,h3⟩
  have hin:∀ b ∈ wr,∃ t,wr[t]? = some b:=fun b hb=>List.mem_iff_getElem?.mp hb
  refine ⟨wr.map fun b=>(h'.get? b).getD default,by rw [List.length_map,hw],?_,fun t b e=>?_⟩
  rotate_left
  . rw [List.getElem?_map,e]
    refine e1a0 (hl b (List.mem_of_getElem? e)) fun o ho=>?_
    simp [ho]
  refine e1a1 R.fr fun m F lc=>?_
  have lw:(wr.map fun b=>(h'.get? b).getD default).length = os.length:=by rw [List.length_map,hw]
  have off:∀ {i:Nat} {a:Addr},W.φ[i]? = some a -> (i < H0.length ∨ H0.length + os.length <= i) -> a ∉ wr:=fun {i a} e hi hm=>by
    refine e1a0 (hin a hm) fun t ht=>?_
    have htl:t < os.length:=by rw [<- hw]; exact (List.getElem?_eq_some_iff.mp ht).1
    have e2:=hφ t a ht
    have:=(List.getElem?_inj (List.getElem?_eq_some_iff.mp e).1 R.nd).mp (e.trans e2.symm)
    lia
  have F':Fr fd.b fd.L h' m:=⟨F.ns.at' fun o e=>hk _ _ (fun hm=>by refine e1a0 (hin _ hm) fun t ht=>?_; refine e1a2 (hat t _ ht) fun _ _ q _=>?_; exact q rfl) e,fun b o e=>hk b o (fun hm=>by
    refine e1a0 (hin _ hm) fun t ht=>?_; refine e1a2 (hat t _ ht) fun _ _ _ q=>?_; rw [q] at e; exact nse e) (F.keep b o e),F.above⟩
  have lenE:∀ (ps:List Obj),ps.length = os.length -> (H0 ++ ps.map AObj.raw ++ post).length = (H0 ++ os.map AObj.raw ++ post).length:=fun ps e=>by simp [e]
  have same:∀ (ps:List Obj),ps.length = os.length -> ∀ i o,(i < H0.length ∨ H0.length + os.length <= i) -> (H0 ++ ps.map AObj.raw ++ post)[i]? = some o -> (H0 ++ os.map AObj.raw ++ post)[i]? = some o:=fun ps e i o hi q=>(Zg6 e hi).symm.trans q
  refine ⟨⟨m,F',lc⟩,?_,R.nd,fun i a o e1 e2=>?_,fun p e=>?_,R.cel,R.cen,R.cec,fun i a o e1 e2 q=>?_⟩
  . exact R.len.trans (lenE _ lw).symm
  . by_cases hi:i < H0.length ∨ H0.length + os.length <= i
    . refine e1a3 (R.obj i a o e1 (same _ lw i o hi e2)) fun o' g1 g2 g3 g4=>?_
      exact ⟨o',hk _ _ (off e1 hi) g1,g2,g3,g4⟩
    . have e2:(H0 ++ (wr.map fun b=>(h'.get? b).getD default).map AObj.raw ++ post)[i]? = some o:=e2
      have hit:i - H0.length < os.length:=by lia
      have hwt:wr[i - H0.length]? = some (wr[i - H0.length]'(by lia)):=List.getElem?_eq_getElem _
      have ea:W.φ[i]? = some (wr[i - H0.length]'(by lia)):=by
        have:=hφ _ _ hwt
        rwa [show H0.length + (i - H0.length) = i by lia] at this
      rw [e1] at ea
      have ea:=Option.some.inj ea
      rw [List.append_assoc,List.getElem?_append_right (by lia),List.getElem?_append_left (by simp; lia),List.getElem?_map,List.getElem?_map,hwt] at e2
      obtain rfl:=Option.some.inj e2
      refine e1a0 (hl a (ea ▸ List.getElem_mem _)) fun o' ho'=>?_
      refine e1a2 (hat _ a (by rw [hwt,ea])) fun _ _ q1 q2=>?_
      refine ⟨o',ho',q1,q2,?_⟩
      rw [<- ea]; simp only [ho',Option.getD_some]; exact .raw _
  . refine e0a3 (R.frz p e) fun g1 g2 g3 g4=>?_
    have np:p.1 ∉ wr:=fun hm=>by
      refine e1a0 (hin _ hm) fun t ht=>?_
      have htl:t < os.length:=by rw [<- hw]; exact (List.getElem?_eq_some_iff.mp ht).1
      have:=g4 _ (hφ t _ ht)
      cases Option.some.inj ((Zft htl).symm.trans this)
    refine ⟨hk _ _ np g1,g2,g3,fun i e1=>?_⟩
    have hi:i < H0.length ∨ H0.length + os.length <= i:=by
      by_cases q:i < H0.length ∨ H0.length + os.length <= i
      . exact q
      . exfalso
        have hwt:wr[i - H0.length]? = some (wr[i - H0.length]'(by lia)):=List.getElem?_eq_getElem _
        have ea:=hφ _ _ hwt
        rw [show H0.length + (i - H0.length) = i by lia] at ea
        rw [e1] at ea
        exact np (by have:=Option.some.inj ea; rw [this]; exact List.getElem_mem _)
    have:=g4 i e1
    exact (Zg6 lw hi).trans this
  . by_cases hi:i < H0.length ∨ H0.length + os.length <= i
    . exact R.dn i a o e1 (same _ lw i o hi e2) q
    . have e2:(H0 ++ (wr.map fun b=>(h'.get? b).getD default).map AObj.raw ++ post)[i]? = some o:=e2
      rw [List.append_assoc,List.getElem?_append_right (by lia),List.getElem?_append_left (by simp; lia),List.getElem?_map,List.getElem?_map] at e2
      cases e3:wr[i - H0.length]? with
      | none=>rw [e3] at e2; exact nse e2
      | some b=>rw [e3] at e2; obtain rfl:=Option.some.inj e2; exact ft q
theorem RelF.item (R:RelF fd W σ h) {P:Nat -> Value -> Nat -> Heap -> Prop} {items:List PV} (G:Gives W P items) {i:Nat} {p:PV} {v:Value} {z:Nat} (e:items[i]? = some p) (hP:P i v z h) (hz:∀ a ∈ W.φ,a < z) (hL:fd.L < z) (hb:fd.b.objs.size <= z) :
    ∃ W',W.le W' /\ W'.φ = W.φ /\ RelF fd W' σ h /\ VRel W' p v:=by
  rcases G i p v z h e hP with V | ⟨T,xs,vs,rfl,rfl,hzT,⟨o,ho,hc,n,hd⟩,r⟩
  . exact ⟨W,.refl _,rfl,R,V⟩
  . have l:=Wd.le_frz W T o
    refine ⟨W.frz T o,l,rfl,R.ice ho (Nat.ne_of_gt (Nat.lt_of_lt_of_le hL hzT)) ?_ (fun j ej=>absurd (hz T (List.mem_of_getElem? ej)) (Nat.not_lt.mpr hzT)),.tup (Wd.frz_at _ _ _) hc hd (VRels.mono l r)⟩
    exact Heap.get?_none_of_le (Nat.le_trans hb hzT)
theorem Stays.mono {W W':Wd} {H:List AObj} {b:Addr} (l:W.le W') (s:Stays W H b):Stays W' H b:=by
  rcases s with ⟨o,e⟩ | ⟨j,a,o,e1,e2⟩
  . exact .inl ⟨o,l.Z _ e⟩
  . exact .inr ⟨j,a,o,l.φ _ _ e1,e2⟩
theorem Gives.mono {W W':Wd} {P:Nat -> Value -> Nat -> Heap -> Prop} {items:List PV} (l:W.le W') (G:Gives W P items):Gives W' P items:=fun i p v z h e hP=>by
  rcases G i p v z h e hP with V | ⟨T,xs,vs,a,b,c,d,r⟩
  . exact .inl (VRel.mono l V)
  . exact .inr ⟨T,xs,vs,a,b,c,d,VRels.mono l r⟩
theorem ZbD {C:Cx} {A:Around} {target:Expr} {I:Addr} {fp wr:List Addr} {n:Nat} {P Md:Nat -> Value -> Nat -> Heap -> Prop} {S:Nat -> Heap -> Prop} (T:Turns C.prog C.w A target I fp wr n P Md S) {W W':Wd} {H0 H0' post post':List AObj} {os:List Obj} {σ':St} {h':Heap} {i:Nat} {fd':Fd}
    (hw:wr.length = os.length) (hφ:∀ t b,wr[t]? = some b -> W.φ[H0.length + t]? = some b) (hs:∀ b ∈ fp,b ∉ wr -> Stays W H0 b) (l:W.le W') (hl:H0'.length = H0.length) (hfx:∀ (j:Nat) a o,H0[j]? = some (.fix a o) -> (∃ b,W.φ[j]? = some b /\ b ∈ fp) -> ∃ a',H0'[j]? = some (.fix a' o))
    (R:RelF fd W { σ with H:=H0 ++ os.map .raw ++ post } h) (R':RelF fd' W' { σ' with H:=H0' ++ os.map .raw ++ post' } h') (st:S i h):S i h':=by
  refine T.frame i h h' st fun b hb o e=>?_
  by_cases hm:b ∈ wr
  . refine e1a0 (List.mem_iff_getElem?.mp hm) fun t ht=>?_
    have htl:t < os.length:=by rw [<- hw]; exact (List.getElem?_eq_some_iff.mp ht).1
    have at_:∀ {H0 post:List AObj},(H0 ++ os.map AObj.raw ++ post)[H0.length + t]? = some (.raw os[t]):=Zft htl
    refine e1a3 (R.obj (H0.length + t) b (.raw os[t]) (hφ t b ht) at_) fun o₁ g1 _ _ g4=>?_
    refine e1a3 (R'.obj (H0'.length + t) b (.raw os[t]) (by rw [hl]; exact l.φ _ _ (hφ t b ht)) at_) fun o₂ k1 _ _ k4=>?_
    exact k1.trans (congrArg some ((k4.inv:o₂ = _).trans ((g4.inv:o₁ = _).symm.trans (Option.some.inj (g1.symm.trans e)))))
  . rcases hs b hb hm with ⟨o',z⟩ | ⟨j,a,o',e1,e2⟩
    . have g1:=(R.frz _ z).1
      have k1:=(R'.frz _ (l.Z _ z)).1
      exact k1.trans (g1.symm.trans e)
    . have hj:j < H0.length:=(List.getElem?_eq_some_iff.mp e2).1
      refine e1a0 (hfx j a o' e2 ⟨b,e1,hb⟩) fun a' e3=>?_
      refine e1a3 (R.obj j b (.fix a o') e1 (by show (H0 ++ _ ++ _)[j]? = _; rw [List.append_assoc,List.getElem?_append_left hj]; exact e2)) fun o₁ g1 _ _ g4=>?_
      refine e1a3 (R'.obj j b (.fix a' o') (l.φ _ _ e1) (by show (H0' ++ _ ++ _)[j]? = _; rw [List.append_assoc,List.getElem?_append_left (by lia)]; exact e3)) fun o₂ k1 _ _ k4=>?_
      exact k1.trans (congrArg some ((ORel.fix_i k4).1.trans ((ORel.fix_i g4).1.symm.trans (Option.some.inj (g1.symm.trans e)))))
theorem RelF.off (R:RelF fd W σ h) {wr:List Addr} {h':Heap} (hk:∀ b o,b ∉ wr -> h.get? b = some o -> h'.get? b = some o) (hw:∀ b ∈ wr,b ∉ W.adr /\ b ≠ fd.L /\ fd.b.get? b = none):RelF fd W σ h':=by
  refine e1a1 R.fr fun m F lc=>?_
  refine R.carry (fd':=fd) (m':=m) ⟨F.ns.at' fun o e=>hk _ _ (fun hm=>(hw _ hm).2.1 rfl) e,fun b o e=>hk b o (fun hm=>by rw [(hw b hm).2.2] at e; exact nse e) (F.keep b o e),F.above⟩ lc (fun p hp=>?_) R.cel R.cen R.cec
  refine e0a2 (R.news p hp) fun h1 h2 h3=>?_
  exact ⟨hk _ _ (fun hm=>(hw _ hm).1 (by rw [<- Wd.led_map W h]; exact List.mem_map_of_mem hp)) h1,h2,h3⟩
theorem RelF.dropRaw {H0:List AObj} {os:List Obj} {wr:List Addr} (R:RelF fd W { σ with H:=H0 ++ os.map .raw } h) (hw:wr.length = os.length) (hφ:∀ t b,wr[t]? = some b -> W.φ[H0.length + t]? = some b)
    {h':Heap} (hk:∀ b o,b ∉ wr -> h.get? b = some o -> h'.get? b = some o) (hlo:∀ (i:Nat) o,H0[i]? = some o -> AObj.lim H0.length o = true) (hll:∀ x v,lk x σ.loc = some v -> PV.lim H0.length v = true)
    (hcm:∀ x i,lkN x σ.cm = some i -> i < H0.length) (hci:∀ i,σ.ci = some i -> i < H0.length) (hcc:∀ x i,lkN x σ.cc = some i -> i < H0.length):RelF fd (W.cut H0.length) { σ with H:=H0 } h':=by
  have Rc:RelF fd (W.cut H0.length) { σ with H:=H0 } h:=RelF.cut R (n:=H0.length) (H':=H0) (loc':=σ.loc) (cm':=σ.cm) (ci':=σ.ci) (cc':=σ.cc) (by simp) rfl hlo (fun x v e=>⟨e,hll x v e⟩) (fun x i e=>⟨e,hcm x i e⟩) (fun i e=>⟨e,hci i e⟩) (fun x i e=>⟨e,hcc x i e⟩)
  refine Rc.off hk fun b hb=>?_
  refine e1a0 (List.mem_iff_getElem?.mp hb) fun t ht=>?_
  have htl:t < os.length:=by rw [<- hw]; exact (List.getElem?_eq_some_iff.mp ht).1
  have e1:=hφ t b ht
  have e2:(H0 ++ os.map AObj.raw)[H0.length + t]? = some (.raw os[t]):=by
    rw [List.getElem?_append_right (Nat.le_add_right _ _),Nat.add_sub_cancel_left]; simp [htl]
  refine e1a3 (R.obj _ b _ e1 e2) fun o' _ g2 g3 _=>?_
  refine ⟨fun hm=>?_,g2,g3⟩
  rcases List.mem_append.mp hm with hm | hm
  . have hm:b ∈ W.φ.take H0.length:=hm
    refine e1a0 (List.mem_iff_getElem?.mp hm) fun j hj=>?_
    have hjl:j < H0.length:=by have:=(List.getElem?_eq_some_iff.mp hj).1; rw [List.length_take] at this; lia
    rw [List.getElem?_take_of_lt hjl] at hj
    have:=(List.getElem?_inj (List.getElem?_eq_some_iff.mp hj).1 R.nd).mp (hj.trans e1.symm)
    lia
  . refine e1a1 (List.mem_map.mp hm) fun p hp hqa=>?_; subst hqa
    have:=(R.frz p hp).2.2.2 _ e1
    have e3:(H0 ++ os.map AObj.raw)[H0.length + t]? = some .dead:=this
    rw [e2] at e3; cases e3
end
noncomputable abbrev rawed (σ:St) (os:List Obj):St:={ σ with H:=σ.H ++ os.map .raw }
noncomputable def AsJ (C:Cx) (k:Nat) (fi:Fi) (σ:St) (target:Expr) (p:PV) (σ':St):Prop:=
  ∀ (fd:Fd) (W:Wd) (s:Shared) (v:Value) (Q:Unit -> Shared -> Prop) (E:Value -> Shared -> Prop),OkF C k fi fd -> Rl fd W σ s.heap -> VRel W p v -> Bk fd W σ' s (fun _ _=>True) Q -> wpAny C.M (fd.A fi) (assign target (fd.ev fi) v) Q E s
section
variable {C:Cx} {k:Nat} {fi:Fi} {σ σ₁ σ₂ σ₃ σ':St}
theorem Zny {fd:Fd} (ok:OkF C (k + 1) fi fd):(fd.A fi).handled = none:=by
  rcases ok.hn with e | e
  . exact e
  . exact absurd e (Nat.succ_ne_zero _)
theorem ZdP {fd:Fd} {target:Expr} {I:Addr} {fp wr:List Addr} {items:List PV} {P Md:Nat -> Value -> Nat -> Heap -> Prop} {S:Nat -> Heap -> Prop} (T:Turns C.prog C.w (fd.A fi) target I fp wr items.length P Md S) {W:Wd} {H0 post:List AObj} {os:List Obj} {s:Shared} {i:Nat} {p:PV}
    (hw:wr.length = os.length) (hφ:∀ t b,wr[t]? = some b -> W.φ[H0.length + t]? = some b) (G:Gives W P items) (R:Rl fd W { σ with H:=H0 ++ os.map .raw ++ post } s.heap) (st:S i s.heap) (e:items[i]? = some p)
    {K:Value -> Shared -> Prop} {E E':Value -> Shared -> Prop} (hK:∀ (v:Value) (h':Heap) (tk:Nat) (W':Wd) (os':List Obj),os'.length = os.length -> W.le W' -> W'.φ = W.φ -> Rl fd W' { σ with H:=H0 ++ os'.map .raw ++ post } h' -> VRel W' p v -> S (i + 1) h' -> K v { s with heap:=h',toks:=tk }) {N:Shared -> Prop} :
    wpAny C.M (fd.A fi) (pyNext (.ref I)) (fun r s₁=>match r with | none=>N s₁ | some v=>wpAny C.M (fd.A fi) (letOwnedTupleGo target (.ref I) v) (fun _ s₂=>K v s₂) E' s₁) E s:=by
  have hi:i < items.length:=(List.getElem?_eq_some_iff.mp e).1
  refine T.item i s _ E hi st fun v h₁ tk₁ hM hk₁=>?_
  refine T.go i v s.heap.objs.size { s with heap:=h₁,toks:=tk₁ } _ E' hM fun h₂ hP st₂ hk₂=>?_
  refine e1a1 R.fr fun m F _=>?_
  refine e1a2 (R.rawed hw hφ (h':=h₂) (fun b o hb q=>hk₂ b o hb (hk₁ b o hb q)) (T.live _ _ st₂)) fun os' ho' R' _=>?_
  refine e1a3 (R'.item G e hP (fun a ha=>R.lt ha) R.frL (Nat.le_trans F.above (Nat.le_of_lt F.ns.lt))) fun W' l eφ R'' V=>?_
  exact hK v h₂ tk₁ W' os' ho' l eφ R'' V st₂
theorem ZkU {target iter:Expr} {body:List Stmt} {pos:Pos} {p:PV} {items:List PV} {m:Nat} {H0:List AObj} (J:Nat -> St) (h:Ev C (k + 1) fi σ iter p σ₁) (S:ZbI σ₁.H p H0 m items) (hT:Zem m target) (hnd:∀ i,p = .ref i -> m = 4)
    (hJl:∀ x v,lk x (J 0).loc = some v -> lk x σ₁.loc = some v) (hJc:(J 0).cm = σ₁.cm) (hJi:(J 0).ci = σ₁.ci) (hJk:(J 0).cc = σ₁.cc) (hJH:(J 0).H = H0) (hlen:∀ i,(J i).H.length = H0.length)
    (turn:∀ i q,items[i]? = some q -> ∀ os:List Obj,os.length = m -> ∃ σa o,(o = Out.next ∨ o = Out.cont) /\ AsJ C (k + 1) fi (rawed (J i) os) target q σa /\ Ex C (k + 1) fi σa body o (rawed (J (i + 1)) os))
    (hcon:∀ i,(J i).cm = σ₁.cm /\ (J i).ci = σ₁.ci /\ (J i).cc = σ₁.cc) (hm:σ₁.H.length = H0.length)
    (hlH:LimH σ₁.H.length (J items.length).H) (hlL:LimL σ₁.H.length (J items.length).loc)
    (hs:∀ env x,foldedSetIterable iter env x = pure x:=by intro _ _; rfl):Ex1 C (k + 1) fi σ (.For target iter body [] pos) .next (J items.length):=by
  intro fd W s Q E ok R bk
  refine wpAny_For (h fd W s _ E ok R fun W1 v1 g1 t1 l1 R1 V1=>?_) (hs _)
  refine ZdQ S hT ok R1 V1 fun I fp wr P Md St os h' W' T ho hw hφ _ hst G st0 l2 R2=>?_
  have hst:=hst hnd
  have hσ:J 0 = { σ₁ with loc:=(J 0).loc,H:=H0 }:=by
    generalize J 0 = j at hJc hJi hJk hJH
    obtain ⟨a,b,c,d,e⟩:=j
    subst hJc hJi hJk hJH; rfl
  have R2:Rl fd W' { σ₁ with H:=H0 ++ os.map .raw } h':=R2
  have R3:Rl fd W' (rawed (J 0) os) h':=by
    have:=R2.forget (loc':=(J 0).loc) hJl
    rw [hσ]
    exact this
  obtain ⟨Inv,hin9,hout⟩:∃ Inv:Nat -> Shared -> Prop,(∀ i h₂ tk W₂ (os₂:List Obj),i <= items.length -> W'.le W₂ -> os₂.length = m -> Rl fd W₂ (rawed (J i) os₂) h₂ -> St i h₂ -> Inv (items.length + 1 - i) { s with heap:=h₂,toks:=tk }) /\
      (∀ n s',Inv n s' -> ∃ i h₂ tk W₂ os₂,n = items.length + 1 - i /\ i <= items.length /\ s' = { s with heap:=h₂,toks:=tk } /\ W'.le W₂ /\ os₂.length = m /\ Rl fd W₂ (rawed (J i) os₂) h₂ /\ St i h₂):=
    ⟨fun n s'=>∃ i h₂ tk W₂ os₂,n = items.length + 1 - i /\ i <= items.length /\ s' = { s with heap:=h₂,toks:=tk } /\ W'.le W₂ /\ os₂.length = m /\ Rl fd W₂ (rawed (J i) os₂) h₂ /\ St i h₂,fun i h₂ tk W₂ os₂ q1 q2 q3 q4 q5=>⟨i,h₂,tk,W₂,os₂,rfl,q1,rfl,q2,q3,q4,q5⟩,fun _ _ q=>q⟩
  refine codeAny_forLoop_any Inv ?_ (items.length + 1) (hin9 0 h' t1 W' os (Nat.zero_le _) (.refl _) ho R3 st0)
  intro n s' hI
  obtain ⟨i,h₂,tk,W₂,os₂,rfl,hi,rfl,l3,ho₂,R4,st⟩:=hout n s' hI
  clear hout hI
  have hl0:=hlen i
  by_cases hlt:i < items.length
  . have hit:items[i]? = some items[i]:=List.getElem?_eq_getElem hlt
    have R4':Rl fd W₂ { J i with H:=(J i).H ++ os₂.map .raw ++ [] } h₂:=by rw [List.append_nil]; exact R4
    refine ZdP (s:={ s with heap:=h₂,toks:=tk }) T (hw.trans ho₂.symm) (fun t b e=>by rw [hl0]; exact l3.φ _ _ (hφ t b e)) (G.mono l3) R4' st hit (fun v h₃ tk₃ W₃ os₃ ho₃ l4 _ R5 V5 st₃=>?_)
    rw [List.append_nil] at R5
    have R5:Rl fd W₃ (rawed (J i) os₃) h₃:=R5
    refine e2a2 (turn i _ hit os₃ (ho₃.trans ho₂)) fun σa o hor ha hb=>?_
    refine ha fd W₃ { s with heap:=h₃,toks:=tk₃ } v _ _ ok R5 V5 fun W₄ _ h₄ tk₄ l5 R6 _=>hb fd W₄ { s with heap:=h₄,toks:=tk₄ } _ _ ok R6 fun W₅ f h₅ tk₅ l6 R7 V7=>?_
    have step:∃ mm,mm < items.length + 1 - i /\ Inv mm { s with heap:=h₅,toks:=tk₅ }:=by
      refine ⟨items.length + 1 - (i + 1),subt hlt,hin9 (i + 1) h₅ tk₅ W₅ os₃ hlt (l3.trans (l4.trans (l5.trans l6))) (ho₃.trans ho₂) R7 ?_⟩
      have R5':RelF fd W₃ { J i with H:=(J i).H ++ os₃.map .raw ++ [] } h₃:=by rw [List.append_nil]; exact R5
      have R7':RelF fd W₅ { J (i + 1) with H:=(J (i + 1)).H ++ os₃.map .raw ++ [] } h₅:=by rw [List.append_nil]; exact R7
      exact ZbD (H0:=(J i).H) (H0':=(J (i + 1)).H) T (hw.trans (ho₃.trans ho₂).symm) (fun t b e=>by rw [hl0]; exact (l3.trans l4).φ _ _ (hφ t b e)) (fun b hb hm=>.inl (by refine e1a0 (hst b hb hm) fun o z=>?_; exact ⟨o,(l3.trans l4).Z _ z⟩)) (l5.trans l6) ((hlen _).trans hl0.symm)
        (fun j a o e1 ⟨b,e2,e3⟩=>by
          exfalso
          by_cases hm:b ∈ wr
          . refine e1a0 (List.mem_iff_getElem?.mp hm) fun t ht=>?_
            have e4:=(l3.trans l4).φ _ _ (hφ t b ht)
            have:=(List.getElem?_inj (List.getElem?_eq_some_iff.mp e2).1 R5.nd).mp (e2.trans e4.symm)
            have hj:=(List.getElem?_eq_some_iff.mp e1).1
            rw [hl0] at hj; lia
          . refine e1a0 (hst b e3 hm) fun oz z=>?_
            have:=(R5.frz _ ((l3.trans l4).Z _ z)).2.2.2 j e2
            have e5:((J i).H ++ os₃.map AObj.raw)[j]? = some .dead:=this
            rw [List.getElem?_append_left (List.getElem?_eq_some_iff.mp e1).1,e1] at e5
            cases e5) R5' R7' st₃
    rcases hor with rfl | rfl
    . cases V7; exact step
    . cases V7; exact step
  . have hin:i = items.length:=by lia
    subst hin
    refine T.done { s with heap:=h₂,toks:=tk } _ _ st fun h₃ tk₃ hk₃=>wpAny_execs_nil ?_
    have hc:=hcon items.length
    have eqn:(J items.length).H.length = σ₁.H.length:=(hlen _).trans hm.symm
    have idx:∀ i,(∃ c:Addr,W1.φ[i]? = some c) -> i < (J items.length).H.length:=fun i ⟨c,z⟩=>by
      have:=(List.getElem?_eq_some_iff.mp z).1; rw [R1.len] at this; lia
    have R5:=RelF.dropRaw (σ:=J items.length) R4 (hw.trans ho₂.symm) (fun t b e=>by rw [hlen]; exact l3.φ _ _ (hφ t b e)) hk₃ (by rw [eqn]; exact hlH.get) (by rw [eqn]; exact hlL)
      (fun x i e=>idx i (by rw [hc.1] at e; refine e1a1 (R1.cel x i e) fun c _ z=>?_; exact ⟨c,z⟩)) (fun i e=>idx i (by rw [hc.2.1] at e; exact ⟨_,R1.cen i e⟩)) (fun x i e=>idx i (by rw [hc.2.2] at e; refine e1a1 (R1.cec x i e) fun c _ z=>?_; exact ⟨c,z⟩))
    refine bk _ _ h₃ tk₃ ?_ R5 .next
    exact l1.trans (Wd.le_cut (l2.trans l3) (by rw [R1.len,eqn]; exact Nat.le_refl _))
end
section
variable {prog:Program} {w:World} {A:Around} {E:Value -> Shared -> Prop} {R:Result -> Shared -> Prop} {s:Shared}
theorem Zbb {elt target iter:Expr} {ifs:List Expr} {scope:Scope} {pos:Pos} {it acc:Value} {env:Env} (I:Nat -> Shared -> Prop)
    (turn:∀ n s,I n s -> wpAny (model prog w) A (pyNext it) (fun r s₁=>match r with
      | none=>R (.ok .next) s₁
      | some v=>wpAny (model prog w) A (letOwnedTupleGo target it v) (fun _ s₁'=>wpAny (model prog w) A (assign target env v) (fun _ s₂=>
          wpAny (model prog w) A (forIn ifs true fun c r=>if r = true then do let ok <- isTrue c env (eval c env); pure (ForInStep.yield ok) else pure (ForInStep.yield r)) (fun ok s₃=>
            if ok = true then wpAny (model prog w) A (eval elt env) (fun x s₄=>
              wpAny (model prog w) A (call (.builtin "list.append") [acc,x]) (fun _ s₅=>∃ m,m < n ∧ I m s₅) (notedBy (model prog w) A env fun e s'=>R (.error e) s') s₄) (notedBy (model prog w) A env fun e s'=>R (.error e) s') s₃
            else ∃ m,m < n /\ I m s₃) (notedBy (model prog w) A env fun e s'=>R (.error e) s') s₂) (notedBy (model prog w) A env fun e s'=>R (.error e) s') s₁')
          (notedBy (model prog w) A env fun e s'=>R (.error e) s') s₁) (notedBy (model prog w) A env fun e s'=>R (.error e) s') s)
    (n:Nat) (h:I n s):codeAny (model prog w) A (.compLoop (.ListComp elt [⟨target,iter,ifs,0⟩] scope pos) 0 it acc env) R s:=by
  refine codeAny_loop rfl I (fun n s hI=>?_) n h
  show wpAny _ A ((compTurn (.ListComp elt [⟨target,iter,ifs,0⟩] scope pos) 0 it acc env).onRaise (fun x=>do noteFrame x env; theTreesLotGoes x)) _ _ s
  refine wpAny_noted ?_
  rw [compTurn_list]
  refine wpAny_bind (wpAny_standAt (wpAny_bind (wpAny_mono (turn n s hI) (fun r s₁ h₁=>?_) fun _ _ h'=>h')))
  cases r with
  | none=>exact wpAny_pure h₁
  | some v=>
    refine wpAny_bind (wpAny_mono h₁ (fun _ s₁' h₁'=>?_) fun _ _ h'=>h')
    refine wpAny_bind (wpAny_mono h₁' (fun _ s₂ h₂=>wpAny_bind (wpAny_mono h₂ (fun ok s₃ h₃=>?_) fun _ _ h'=>h')) fun _ _ h'=>h')
    cases ok with
    | true=>
      simp only [if_true] at h₃ ⊢
      exact wpAny_bind (wpAny_bind (wpAny_mono h₃ (fun x s₄ h₄=>wpAny_bind (wpAny_mono h₄ (fun _ s₅ h₅=>wpAny_pure (wpAny_pure ⟨rfl,h₅⟩)) fun _ _ h'=>h')) fun _ _ h'=>h'))
    | false=>
      simp only [Bool.false_eq_true,if_false] at h₃ ⊢
      exact wpAny_pure ⟨rfl,h₃⟩
end
inductive CcOk (names:List (Str × NameKind)) (cm:List (Str × Nat)):List (Str × Nat) -> Prop
  | nil:CcOk names cm []
  | cons {x:Str} {i:Nat} {r:List (Str × Nat)}:(x,NameKind.free) ∈ names -> lkN x cm = some i -> CcOk names cm r -> CcOk names cm ((x,i) :: r)
theorem CcOk.get {names:List (Str × NameKind)} {cm:List (Str × Nat)}:∀ {cc:List (Str × Nat)},CcOk names cm cc -> ∀ {x i},lkN x cc = some i -> (x,NameKind.free) ∈ names /\ lkN x cm = some i
  | _,.nil,x,i,e=>by exact nse e
  | _,.cons (x:=y) h1 h2 r,x,i,e=>by
    rw [ZeQ] at e
    by_cases q:x = y
    . rw [if_pos q] at e; obtain rfl:=Option.some.inj e; subst q; exact ⟨h1,h2⟩
    . rw [if_neg q] at e; exact r.get e
noncomputable def ZbG (env:Env):Str × NameKind -> List (Str × Addr) -> Sem (ForInStep (List (Str × Addr))):=fun x cs=>match x with
  | (name,kind)=>if (kind == NameKind.free) = true then do
      let y <- cellOf env name
      pure (ForInStep.yield ((name,y) :: cs))
    else pure (ForInStep.yield cs)
theorem Zgo {env:Env}:∀ (names:List (Str × NameKind)) (cs:List (Str × Addr)),(∀ x ∈ names,x.2 = .free -> ∃ a,env.cells.lookup x.1 = some a) ->
    ∃ cl:List (Str × Addr),forIn names cs (ZbG env) = pure cl /\ (∀ x:Str,(x,NameKind.free) ∈ names -> cl.lookup x = env.cells.lookup x) /\ ∀ x:Str,(x,NameKind.free) ∉ names -> cl.lookup x = cs.lookup x:=by
  intro names
  induction names with
  | nil=>exact fun cs _=>⟨cs,rfl,fun x h=>absurd h List.not_mem_nil,fun _ _=>rfl⟩
  | cons p r ih=>
    obtain ⟨n,kd⟩:=p
    intro cs h
    by_cases q:kd = .free
    . subst q
      refine e1a0 (h (n,.free) (.head _) rfl) fun a ha=>?_
      obtain ⟨cl,e1,e2,e3⟩:=ih ((n,a) :: cs) (fun x hx=>h x (.tail _ hx))
      refine ⟨cl,?_,fun x hx=>?_,fun x hx=>?_⟩
      . rw [List.forIn_cons]
        have:ZbG env (n,.free) cs = pure (ForInStep.yield ((n,a) :: cs)):=by
          simp only [ZbG,beq_self_eq_true,if_true]
          rw [show cellOf env n = pure a from by unfold cellOf; rw [ha]]
          rfl
        rw [this]
        exact e1
      . by_cases hm:(x,NameKind.free) ∈ r
        . exact e2 x hm
        . rcases List.mem_cons.mp hx with e | hx
          . cases e
            rw [e3 n hm,List.lookup_cons]; simp [ha]
          . exact absurd hx hm
      . have h1:(x,NameKind.free) ∉ r:=fun q=>hx (.tail _ q)
        have h2:x ≠ n:=fun q=>hx (by rw [q]; exact .head _)
        rw [e3 x h1,List.lookup_cons,beq_eq_false_iff_ne.mpr h2]
    . obtain ⟨cl,e1,e2,e3⟩:=ih cs (fun x hx=>h x (.tail _ hx))
      refine ⟨cl,?_,fun x hx=>?_,fun x hx=>?_⟩
      . rw [List.forIn_cons]
        have:ZbG env (n,kd) cs = pure (ForInStep.yield cs):=by
          have:(kd == NameKind.free) = false:=beq_eq_false_iff_ne.mpr q
          simp only [ZbG,this,Bool.false_eq_true,if_false]
        rw [this]
        exact e1
      . rcases List.mem_cons.mp hx with e | hx
        . cases e; exact absurd rfl q
        . exact e2 x hx
      . exact e3 x fun q=>hx (.tail _ q)
theorem Zgn {env:Env} {scope:Scope} (h:∀ x ∈ scope.names,x.2 = .free -> ∃ a,env.cells.lookup x.1 = some a) :
    ∃ cl:List (Str × Addr),closureFor scope env = pure cl /\ ∀ x:Str,(x,NameKind.free) ∈ scope.names -> cl.lookup x = env.cells.lookup x:=by
  refine e1a2 (Zgo scope.names [] h) fun cl e1 e2 _=>?_
  refine ⟨cl,?_,e2⟩
  show (forIn scope.names [] (ZbG env) >>= fun cs=>pure cs) = _
  rw [e1]; rfl
section
variable {C:Cx} {k:Nat} {fi:Fi} {σ σ₁ σ₂ σ₃ σ':St}
theorem Zm0 {x:Str} {px:Pos} {p:PV} (hcm:fi.cmp = none:=by rfl) (hk:(kd fi).lookup x = some .local:=by rfl):AsJ C k fi σ (.Name x px) p { σ with loc:=stl x p σ.loc }:=by
  intro fd W s v Q E ok R V bk
  exact wpAny_assign_Name (ZaU ok R V hcm hk bk)
theorem Zm1 {x:Str} {px:Pos} {p:PV} {i:Nat} {u:Option PV} (hc:lkN x σ.cm = some i) (hv:σ.H[i]? = some (.cell u)) (hcm:fi.cmp = none:=by rfl) (hk:(kd fi).lookup x = some .cell:=by rfl):AsJ C k fi σ (.Name x px) p { σ with H:=σ.H.set i (.cell (some p)) }:=by
  intro fd W s v Q E ok R V bk
  exact wpAny_assign_Name (ZcS ok R V hc hv hcm hk bk)
theorem LRel.stl {W:Wd} {x:Str} {p:PV} {v:Value} (hv:VRel W p v):∀ {es:List (Str × PV)} {vs:List (Str × Value)},LRel W es vs -> ∃ vs',LRel W (stl x p es) vs' /\ (∀ y,vs'.lookup y = if y = x then some v else vs.lookup y)
  | _,_,.nil=>⟨[(x,v)],.cons hv .nil,fun y=>by
      rw [List.lookup_cons]
      by_cases q:y = x
      . simp [q]
      . simp [beq_eq_false_iff_ne.mpr q,q]⟩
  | _,_,.cons (x:=z) (p:=p₀) (v:=v₀) a r=>by
    simp only [Mine.stl]
    by_cases h:x = z
    . subst h
      refine ⟨(x,v) :: _,by rw [if_pos rfl]; exact .cons hv r,fun y=>?_⟩
      rw [List.lookup_cons,List.lookup_cons]
      by_cases q:y = x
      . simp [q]
      . simp [beq_eq_false_iff_ne.mpr q,q]
    . refine e1a1 (LRel.stl (x:=x) hv r) fun vs' h1 h2=>?_
      refine ⟨(z,v₀) :: vs',by rw [if_neg h]; exact .cons a h1,fun y=>?_⟩
      rw [List.lookup_cons,List.lookup_cons,h2]
      by_cases q:y = z
      . have:¬ y = x:=fun e=>h (e.symm.trans q)
        have h':¬ z = x:=fun e=>h e.symm
        simp [q,h']
      . simp [beq_eq_false_iff_ne.mpr q]
theorem ZbC {x:Str} {p:PV} {v:Value} {i:Nat} {es:List (Str × PV)} {sc:Scope} {fd:Fd} {W:Wd} {s:Shared} {Q:Unit -> Shared -> Prop} {E:Value -> Shared -> Prop} (ok:OkF C k fi fd) (R:Rl fd W σ s.heap) (V:VRel W p v) (hi:σ.ci = some i) (ho:σ.H[i]? = some (.ns es)) (hcm:fi.cmp = some sc) (hk:(kd fi).lookup x = some .local)
    (bk:Bk fd W { σ with H:=σ.H.set i (.ns (stl x p es)) } s (fun _ _=>True) Q):wpAny C.M (fd.A fi) (storeName (fd.ev fi) x v) Q E s:=by
  have h2:=R.cen i hi
  refine e1a3 (R.obj i _ _ h2 ho) fun o h3 h4 h5 h6=>?_
  refine e2a2 (ORel.ns_i h6) fun m vs no lr hm=>?_
  have e1:(fd.ev fi).locals = fd.C:=by rw [ZeX hcm]; rfl
  refine wpAny_storeName_local (m:=m) (kindOf_ev.trans hk) (by rw [e1]; exact no.ns h3) (fun h' hn hs=>?_) (by rw [show (fd.ev fi).scope.kind = .function from ZaS ok]; rfl)
  rw [e1] at hn hs
  refine e1a1 (LCg.ns_obj hn) fun o' e2 no'=>?_
  refine e1a1 (LRel.stl (x:=x) V lr) fun vs' l1 l2=>?_
  exact bk W () h' _ (.refl _) (R.update h2 ho (by intro e; cases e) hs e2 (.ns no' l1 (fun y u e=>by
    rw [l2] at e
    by_cases q:y = x
    . simp [q] at e ⊢; exact e
    . simp only [q,if_false] at e ⊢; exact hm y u e))) trivial
theorem Zkd {x:Str} {px:Pos} {p:PV} {i:Nat} {es:List (Str × PV)} {sc:Scope} (hi:σ.ci = some i) (ho:σ.H[i]? = some (.ns es)) (hcm:fi.cmp = some sc:=by rfl) (hk:(kd fi).lookup x = some .local:=by rfl):AsJ C k fi σ (.Name x px) p { σ with H:=σ.H.set i (.ns (stl x p es)) }:=by
  intro fd W s v Q E ok R V bk
  exact wpAny_assign_Name (ZbC ok R V hi ho hcm hk bk)
theorem Zkb {x y:Str} {px py tp:Pos} {n:Nat} {p q:PV} {i:Nat} {es:List (Str × PV)} {sc:Scope} (hi:σ.ci = some i) (ho:σ.H[i]? = some (.ns es)) (hcm:fi.cmp = some sc:=by rfl) (hk:(kd fi).lookup x = some .local:=by rfl) (hk':(kd fi).lookup y = some .local:=by rfl) :
    AsJ C (k + 1) fi σ (.Tuple [.Name x px,.Name y py] n tp) (.tup [p,q]) { σ with H:=σ.H.set i (.ns (stl y q (stl x p es))) }:=by
  intro fd W s v Q E ok R V bk
  refine e2a2 (Zcf R V) fun a vs hqa h1 h2=>?_; subst hqa
  refine e1a1 R.fr fun m F lc=>?_
  cases h2 with
  | @cons _ v1 _ _ a1 r=>
    cases r with
    | @cons _ v2 _ _ a2 r=>
      cases r
      refine assign_Tuple_tuple (Zny ok) h1 rfl rfl fun h' he=>?_
      have keep:∀ b o,s.heap.get? b = some o -> h'.get? b = some o:=fun b o e=>he b o (Nat.ne_of_lt (Heap.lt_size e)) e
      have R1:Rl fd W σ h':=R.carry (fd':=fd) (F.keeps keep) lc (fun p hp=>⟨keep _ _ (R.news p hp).1,(R.news p hp).2⟩) R.cel R.cen R.cec
      have il:i < σ.H.length:=(List.getElem?_eq_some_iff.mp ho).1
      refine assignInOrder_cons (wpAny_assign_Name (ZbC (s:={ s with heap:=h' }) ok R1 a1 hi ho hcm hk fun W2 _ g2 t2 l2 R2 _=>?_))
      refine assignInOrder_cons (wpAny_assign_Name (ZbC (s:={ s with heap:=g2,toks:=t2 }) (σ:={ σ with H:=σ.H.set i (.ns (stl x p es)) }) ok R2 (VRel.mono l2 a2) hi (List.getElem?_set_self il) hcm hk' fun W3 _ g3 t3 l3 R3 _=>?_))
      refine assignInOrder_nil (bk W3 () g3 t3 (l2.trans l3) ?_ trivial)
      have:(σ.H.set i (.ns (stl x p es))).set i (.ns (stl y q (stl x p es))) = σ.H.set i (.ns (stl y q (stl x p es))):=by simp
      rw [<- this]; exact R3
end
section
variable {C:Cx} {k:Nat} {fi:Fi} {σ σ₁ σ₂ σ₃ σ':St}
inductive TestsJ (C:Cx) (k:Nat) (fi:Fi) (σ:St):List Expr -> Bool -> Prop
  | nil:TestsJ C k fi σ [] true
  | one {c:Expr} {b:Bool}:Ts C k fi σ c b σ -> TestsJ C k fi σ [c] b
theorem TestsJ.run {ifs:List Expr} {b:Bool} (t:TestsJ C k fi σ ifs b) {fd:Fd} {W:Wd} {s:Shared} {Q:Bool -> Shared -> Prop} {E:Value -> Shared -> Prop} (ok:OkF C k fi fd) (R:Rl fd W σ s.heap) (bk:Bk fd W σ s (fun _ x=>x = b) Q) :
    wpAny C.M (fd.A fi) (forIn ifs true fun c r=>if r = true then do let ok <- isTrue c (fd.ev fi) (eval c (fd.ev fi)); pure (ForInStep.yield ok) else pure (ForInStep.yield r)) Q E s:=by
  cases t with
  | nil=>exact wpAny_tests_nil (bk W _ s.heap s.toks (.refl _) R rfl)
  | one h=>exact wpAny_tests_one (h fd W s Q E ok R bk)
noncomputable abbrev Zp (σ₁:St) (H0:List AObj) (os:List Obj) (ys:List PV) (es:List (Str × PV)) (cc:List (Str × Nat)):St:=
  { σ₁ with H:=H0 ++ os.map .raw ++ [.list ys,.ns es],ci:=some (H0.length + os.length + 1),cc:=cc }
noncomputable def EvN (C:Cx) (k:Nat) (fi:Fi) (σ:St) (e:Expr) (xs:List PV) (σ':St):Prop:=
  ∀ (fd:Fd) (W:Wd) (s:Shared) (Q:Value -> Shared -> Prop) (E:Value -> Shared -> Prop),OkF C k fi fd -> Rl fd W σ s.heap ->
    (∀ (W':Wd) (D:Addr) (vs:List Value) (n:Nat) (h':Heap) (tk':Nat),W.le W' -> Rl fd W' σ' h' -> h'.get? D = some (lstO vs n) -> D ≠ fd.L -> fd.b.get? D = none -> D ∉ W'.adr -> VRels W' xs vs -> Q (.ref D) { s with heap:=h',toks:=tk' }) -> wpAny C.M (fd.A fi) (eval e (fd.ev fi)) Q E s
theorem EvN.lst {e:Expr} {xs:List PV} (h:EvN C k fi σ e xs σ'):Ev C k fi σ e (.lst xs) σ':=by
  intro fd W s Q E ok R bk
  refine h fd W s Q E ok R fun W1 D vs n g1 t1 l1 R1 hD hL hb hA V1=>?_
  refine e0a2 (R1.give_lst hD hL hb (fun q=>hA (List.mem_append_left _ q)) V1) fun l2 R2 V2=>?_
  exact bk _ _ g1 t1 (l1.trans l2) R2 V2
noncomputable def EvNF (n:Nat) (C:Cx) (k:Nat) (fi:Fi) (σ:St) (e:Expr) (xs:List PV) (σ':St):Prop:=
  ∀ (fd:Fd) (W:Wd) (s:Shared) (Q:Value -> Shared -> Prop) (E:Value -> Shared -> Prop),OkF C k fi fd -> Rl fd W σ s.heap ->
    (∀ (W':Wd) (D:Addr) (vs:List Value) (m:Nat) (h':Heap) (tk':Nat),(W.cut n).le W' -> Rl fd W' σ' h' -> h'.get? D = some (lstO vs m) -> D ≠ fd.L -> fd.b.get? D = none -> D ∉ W'.adr -> VRels W' xs vs -> Q (.ref D) { s with heap:=h',toks:=tk' }) -> wpAny C.M (fd.A fi) (eval e (fd.ev fi)) Q E s
theorem Wd.le_of_cut {W W':Wd} {n:Nat} (hn:W.φ.length <= n) (l:(W.cut n).le W'):W.le W':=⟨fun i a e=>l.φ i a (by show (W.φ.take n)[i]? = some a; rw [List.take_of_length_le hn]; exact e),l.Z⟩
theorem Wd.cut_mono {W W':Wd} {n m:Nat} (hn:n <= m) (l:W.le W'):(W.cut n).le (W'.cut m):=⟨fun i a e=>by
  have e:(W.φ.take n)[i]? = some a:=e
  have hi:i < n:=by have:=(List.getElem?_eq_some_iff.mp e).1; rw [List.length_take] at this; exact Nat.lt_of_lt_of_le this (Nat.min_le_left _ _)
  rw [List.getElem?_take_of_lt hi] at e
  show (W'.φ.take m)[i]? = some a
  rw [List.getElem?_take_of_lt (by lia)]; exact l.φ i a e,l.Z⟩
theorem EvNF.n {n:Nat} {e:Expr} {xs:List PV} (hn:σ.H.length <= n) (h:EvNF n C k fi σ e xs σ'):EvN C k fi σ e xs σ':=fun fd W s Q E ok R bk=>
  h fd W s Q E ok R fun W' D vs m h' tk' l=>bk W' D vs m h' tk' (Wd.le_of_cut (by rw [R.len]; exact hn) l)
theorem Zed {nF:Nat} {cpos:Pos} {use:Option (Value -> Sem Unit)} {fd:Fd} {W:Wd} {s:Shared} {Q E:Value -> Shared -> Prop} {elt iter target:Expr} {ifs:List Expr} {scope:Scope} {pos:Pos} {p:PV} {items:List PV} {m:Nat} {H0:List AObj} {cc:List (Str × Nat)} {loc':List (Str × PV)} (outs:Nat -> List PV)
    (hcmp:fi.cmp = none) (h:Ev C (k + 1) fi σ iter p σ₁) (S:ZbI σ₁.H p H0 m items) (hT:Zem m target)
    (hcc:CcOk scope.names σ.cm cc) (hfr:∀ x ∈ scope.names,x.2 = .free -> (lkN x.1 σ.cm).isSome = true)
    (hcell:∀ y ∈ scope.names,y.2 ≠ .cell) (hkind:scope.kind = .function) (hnames:∀ y ∈ scope.names,y.2 = .local -> scope.names.lookup y.1 = some .local)
    (h0:outs 0 = []) (hz:∀ i,(outs i).length <= 100000) (hlo:PV.lims H0.length (outs items.length) = true)
    (hlH:LimH H0.length H0) (hlL:LimL H0.length loc') (hll:∀ x v,lk x loc' = some v -> lk x σ₁.loc = some v) (hci:σ₁.ci = none) (hck:σ₁.cc = []) (hcl0:∀ x i,lkN x σ₁.cm = some i -> i < H0.length) (hle:nF <= H0.length)
    (turn:∀ i q,items[i]? = some q -> ∀ os:List Obj,os.length = m -> ∃ es b,AsJ C (k + 1) { fi with cmp:=some scope } (Zp σ₁ H0 os (outs i) [] cc) target q (Zp σ₁ H0 os (outs i) es cc) /\
      TestsJ C (k + 1) { fi with cmp:=some scope } (Zp σ₁ H0 os (outs i) es cc) ifs b /\
      (b = true -> ∃ v,outs (i + 1) = outs i ++ [v] /\ Ev C (k + 1) { fi with cmp:=some scope } (Zp σ₁ H0 os (outs i) es cc) elt v (Zp σ₁ H0 os (outs i) es cc)) /\ (b = false -> outs (i + 1) = outs i))
    (hs:∀ env x,foldedSetIterable iter env x = pure x) (ok:OkF C (k + 1) fi fd) (R:Rl fd W σ s.heap)
    (bk:∀ (W':Wd) (D:Addr) (vs:List Value) (m:Nat) (h':Heap) (tk':Nat) (Ca:Addr) (mC:Str -> Option Value) (r:Flow),(W.cut nF).le W' -> Rl fd W' { σ₁ with H:=H0,loc:=loc' } h' -> h'.get? D = some (lstO vs m) -> D ≠ fd.L -> fd.b.get? D = none -> D ∉ W'.adr -> VRels W' (outs items.length) vs ->
      h'.Ns Ca mC -> Ca ∉ W'.adr -> Ca ≠ fd.L -> fd.b.get? Ca = none -> D ≠ Ca -> compPost C.M (fd.A fi) E use Q (.ref D) Ca (.ok r) { s with heap:=h',toks:=tk' }) :
    wpAny C.M (fd.A fi) (comprehension (.ListComp elt [⟨target,iter,ifs,0⟩] scope pos) scope (fd.env fi) cpos (newList []) false (eval iter (fd.env fi)) use) Q E s:=by
  obtain ⟨cl,hclos,hcl⟩:∃ cl:List (Str × Addr),closureFor scope (fd.env fi) = pure cl /\ ∀ x i,lkN x cc = some i -> ∃ a,cl.lookup x = some a /\ W.φ[i]? = some a:=by
    obtain ⟨cl,e1,e2⟩:=Zgn (env:=fd.env fi) (scope:=scope) (fun x hx hf=>by
      have:=hfr x hx hf
      cases q:lkN x.1 σ.cm with
      | none=>rw [q] at this; exact ft this
      | some i=>refine e1a1 (R.cel _ i q) fun a h1 _=>?_; exact ⟨a,h1⟩)
    refine ⟨cl,e1,fun x i e=>?_⟩
    refine e0a1 (hcc.get e) fun h1 h2=>?_
    refine e1a1 (R.cel x i h2) fun a h3 h4=>?_
    exact ⟨a,(e2 x h1).trans h3,h4⟩
  refine wpAny_comprehension_free (use:=use) rfl (hs _) hclos hkind hnames ?_
  have h1:=h fd W s (fun x s₁=>wpAny C.M (fd.A fi) (pyIter x) (fun it s₂=>wpAny C.M (fd.A fi) (newList []) (fun acc s₃=>
      wpAny C.M (fd.A fi) (newFunctionEnv scope (fd.env fi).globals cl [] (fd.env fi).qual none .none (some (fd.env fi))) (fun cenv s₄=>
        codeAny C.M (fd.A fi) (.compStart (.ListComp elt [⟨target,iter,ifs,0⟩] scope pos) 0 it acc { cenv with scope:=relabel scope (fd.env fi) }) (compPost C.M (fd.A fi) E use Q acc cenv.locals) s₄) E s₃) E s₂) E s₁) E ok R ?_
  . have e:(fun fd=>eval iter (fd.ev fi)) fd = eval iter (fd.env fi):=by show eval iter (fd.ev fi) = _; rw [Zar hcmp]
    rw [e] at h1; exact h1
  intro W1 v1 g1 t1 l1 R1 V1
  refine ZdQ S hT ok R1 V1 fun I fp wr P Md St os h₂ W2 T ho hw hφ hst _ G st0 l2 R2=>?_
  refine wpAny_newObj_type (wpAny_newFunctionEnv hcell (by intro y hy; simp at hy) (fun h₃ hns hsb=>?_) hkind)
  dsimp only at hns hsb ⊢
  have R2:Rl fd W2 { σ₁ with H:=H0 ++ os.map .raw } h₂:=R2
  have RD:=R2.alloc (o:=.list []) (o':={ cls:=.type "list", dict:=none,data:=.seq ([]:List Value).toArray }) (.list (vs:=[]) (n:=0) .nil) rfl
  generalize hhD:h₂.push { cls:=.type "list", dict:=none,data:=.seq ([]:List Value).toArray } = hD at RD hns hsb ⊢
  have RE:=RD.push { cls:=.type (if (some (fd.env fi)).isSome = true then "dict" else "frame"),data:=.dict #[] }
  have RE2:=RE.off (wr:=[hD.objs.size]) (h':=h₃) (fun b o hb e=>(hsb.2 b (by simpa using hb)).trans e) (fun b hb=>by
    rw [List.mem_singleton.mp hb]; exact ⟨RD.size_new,Nat.ne_of_gt RD.frL,RD.bnew⟩)
  refine e1a1 (LCg.ns_obj hns) fun oC hoC noC=>?_
  have RC:=RE2.own (o:=.ns []) hoC (Nat.ne_of_gt RD.frL) RD.bnew RD.size_new (.ns noC .nil (fun x v e=>by exact nse e))
  have eH:((H0 ++ os.map .raw) ++ [AObj.list []]) ++ [AObj.ns []] = H0 ++ os.map .raw ++ [.list (outs 0),.ns []]:=by rw [h0]; simp
  let fd':Fd:={ fd with C:=hD.objs.size,ccl:=cl }
  let fi':Fi:={ fi with cmp:=some scope }
  have ok':OkF C (k + 1) fi' fd':=⟨ok.B,ok.X,ok.T,ok.kf,(fun sc e=>by obtain rfl:=Option.some.inj e; exact hkind),ok.hn,ok.dp,ok.un,ok.ho⟩
  generalize hW3:(W2.push h₂.objs.size).push hD.objs.size = W3 at RC
  have l3:W2.le W3:=hW3 ▸ (Wd.le_push _ _).trans (Wd.le_push _ _)
  have hlen2:W2.φ.length = H0.length + os.length:=by have:=R2.len; simpa using this
  have eD:W3.φ[H0.length + os.length]? = some h₂.objs.size:=by
    rw [<- hW3]; exact (Wd.le_push _ _).φ _ _ (Wd.push_at W2 _ hlen2.symm)
  have eC:W3.φ[H0.length + os.length + 1]? = some hD.objs.size:=by
    rw [<- hW3]; exact Wd.push_at _ _ (by show _ = (W2.φ ++ [_]).length; rw [List.length_append,hlen2]; rfl)
  have RC:Rl fd W3 { σ₁ with H:=((H0 ++ os.map .raw) ++ [AObj.list []]) ++ [AObj.ns []] } h₃:=RC
  rw [eH] at RC
  have R3:Rl fd' W3 (Zp σ₁ H0 os (outs 0) [] cc) h₃:=⟨RC.fr,RC.len,RC.nd,RC.obj,RC.frz,RC.cel,(fun i e=>by obtain rfl:=Option.some.inj e; exact eC),(fun x i e=>by
    refine e1a1 (hcl x i e) fun a q1 q2=>?_
    exact ⟨a,q1,(l1.trans (l2.trans l3)).φ _ _ q2⟩),RC.dn⟩
  have st3:St 0 h₃:=by
    have R2':RelF fd W2 { σ₁ with H:=H0 ++ os.map .raw ++ [] } h₂:=by rw [List.append_nil]; exact R2
    exact ZbD (H0:=H0) (H0':=H0) (post:=[]) (post':=[.list (outs 0),.ns []]) (σ':=Zp σ₁ H0 os (outs 0) [] cc) T (hw.trans ho.symm) hφ hst l3 rfl (fun j a o e _=>⟨a,e⟩) R2' R3 st0
  obtain ⟨P9,hP9⟩:∃ P9,P9 = compPost C.M (fd.A fi) E use Q (.ref h₂.objs.size) hD.objs.size:=⟨_,rfl⟩
  have loop:∀ t₃,codeAny C.M (fd.A fi) (.compLoop (.ListComp elt [⟨target,iter,ifs,0⟩] scope pos) 0 (.ref I) (.ref h₂.objs.size) (fd'.ev fi')) P9 { s with heap:=h₃,toks:=t₃ }:=fun t₃=>by
    obtain ⟨Inv,hin,hout⟩:∃ Inv:Nat -> Shared -> Prop,(∀ i h₄ tk W₄ (os₄:List Obj),i <= items.length -> W3.le W₄ -> os₄.length = m -> Rl fd' W₄ (Zp σ₁ H0 os₄ (outs i) [] cc) h₄ -> St i h₄ -> Inv (items.length + 1 - i) { s with heap:=h₄,toks:=tk }) /\
        (∀ n s',Inv n s' -> ∃ i h₄ tk W₄ os₄,n = items.length + 1 - i /\ i <= items.length /\ s' = { s with heap:=h₄,toks:=tk } /\ W3.le W₄ /\ os₄.length = m /\ Rl fd' W₄ (Zp σ₁ H0 os₄ (outs i) [] cc) h₄ /\ St i h₄):=
      ⟨fun n s'=>∃ i h₄ tk W₄ os₄,n = items.length + 1 - i /\ i <= items.length /\ s' = { s with heap:=h₄,toks:=tk } /\ W3.le W₄ /\ os₄.length = m /\ Rl fd' W₄ (Zp σ₁ H0 os₄ (outs i) [] cc) h₄ /\ St i h₄,fun i h₄ tk W₄ os₄ q1 q2 q3 q4 q5=>⟨i,h₄,tk,W₄,os₄,rfl,q1,rfl,q2,q3,q4,q5⟩,fun _ _ q=>q⟩
    refine Zbb Inv ?_ (items.length + 1) (hin 0 h₃ t₃ W3 os (Nat.zero_le _) (.refl _) ho R3 st3)
    intro n s' hI
    obtain ⟨i,h₄,tk,W₄,os₄,rfl,hi,rfl,l4,ho₄,R4,st⟩:=hout n s' hI
    clear hout hI
    by_cases hlt:i < items.length
    . have hit:items[i]? = some items[i]:=List.getElem?_eq_getElem hlt
      refine ZdP (fi:=fi') (s:={ s with heap:=h₄,toks:=tk }) (fd:=fd') (σ:=Zp σ₁ H0 os₄ (outs i) [] cc) (post:=[.list (outs i),.ns []]) T (hw.trans ho₄.symm) (fun t b e=>(l3.trans l4).φ _ _ (hφ t b e)) (G.mono (l3.trans l4)) R4 st hit (fun v h₅ tk₅ W₅ os₅ ho₅ l5 _ R5 V5 st₅=>?_)
      have e54:os₅.length = os₄.length:=ho₅
      have R5:Rl fd' W₅ (Zp σ₁ H0 os₅ (outs i) [] cc) h₅:=by
        have:Zp σ₁ H0 os₅ (outs i) [] cc = { Zp σ₁ H0 os₄ (outs i) [] cc with H:=H0 ++ os₅.map .raw ++ [.list (outs i),.ns []] }:=by simp [Zp,e54]
        rw [this]; exact R5
      refine e2a3 (turn i _ hit os₅ (ho₅.trans ho₄)) fun es b ha ht hT' hF'=>?_
      refine ha fd' W₅ { s with heap:=h₅,toks:=tk₅ } v _ _ ok' R5 V5 fun W₆ _ h₆ tk₆ l6 R6 _=>ht.run (s:={ s with heap:=h₆,toks:=tk₆ }) ok' R6 fun W₇ b' h₇ tk₇ l7 R7 eb=>?_
      subst eb
      have again:∀ (W₈:Wd) (h₈:Heap) (tk₈:Nat) (ys:List PV),W₇.le W₈ -> Rl fd' W₈ (Zp σ₁ H0 os₅ ys es cc) h₈ -> ys = outs (i + 1) ->
          ∃ mm,mm < items.length + 1 - i /\ Inv mm { s with heap:=h₈,toks:=tk₈ }:=fun W₈ h₈ tk₈ ys l8 R8 hys=>by
        subst hys
        have hidx:(H0 ++ os₅.map AObj.raw ++ [AObj.list (outs (i + 1)),AObj.ns es])[H0.length + os₅.length + 1]? = some (.ns es):=by
          rw [List.getElem?_append_right (by simp)]; simp
        refine e2a4 (R8.at hidx) fun aC oC' hc1 hc2 _ _ hc3=>?_
        have R9:=R8.holdRaw hc1 hidx (by intro e; cases e) hc2 (.ns []) (by
          refine e2a2 (ORel.ns_i hc3) fun _ _ no lr hm=>?_
          exact .ns no .nil (fun x v e=>by exact nse e)) (by intro e; exact ft e)
        have eset:(H0 ++ os₅.map AObj.raw ++ [AObj.list (outs (i + 1)),AObj.ns es]).set (H0.length + os₅.length + 1) (.ns []) = H0 ++ os₅.map AObj.raw ++ [AObj.list (outs (i + 1)),AObj.ns []]:=by
          rw [List.set_append_right _ _ (by simp)]; simp
        have R9:Rl fd' W₈ { Zp σ₁ H0 os₅ (outs (i + 1)) es cc with H:=(H0 ++ os₅.map AObj.raw ++ [AObj.list (outs (i + 1)),AObj.ns es]).set (H0.length + os₅.length + 1) (.ns []) } h₈:=R9
        rw [eset] at R9
        refine ⟨items.length + 1 - (i + 1),subt hlt,hin (i + 1) h₈ tk₈ W₈ os₅ hlt (l4.trans (l5.trans (l6.trans (l7.trans l8)))) (ho₅.trans ho₄) R9 ?_⟩
        exact ZbD (σ:=Zp σ₁ H0 os₅ (outs i) [] cc) (σ':=Zp σ₁ H0 os₅ (outs (i + 1)) [] cc) (fd:=fd') (fd':=fd') (H0:=H0) (H0':=H0) (post:=[.list (outs i),.ns []]) (post':=[AObj.list (outs (i + 1)),AObj.ns []]) T (hw.trans (ho₅.trans ho₄).symm) (fun t b e=>(l3.trans (l4.trans l5)).φ _ _ (hφ t b e)) (fun b hb hm=>(hst b hb hm).mono (l3.trans (l4.trans l5))) (l6.trans (l7.trans l8)) rfl (fun j a o e _=>⟨a,e⟩) R5 R9 st₅
      cases b' with
      | true=>
        simp only [if_true]
        refine e1a1 (hT' rfl) fun y hy hev=>?_
        refine hev fd' W₇ { s with heap:=h₇,toks:=tk₇ } _ _ ok' R7 fun W₈ y' h₈ tk₈ l8 R8 V8=>?_
        have hidx:(H0 ++ os₅.map AObj.raw ++ [AObj.list (outs i),AObj.ns es])[H0.length + os₅.length]? = some (.list (outs i)):=by
          rw [List.getElem?_append_right (by simp)]; simp
        have e55:os₅.length = os.length:=(ho₅.trans ho₄).trans ho.symm
        refine Z6 (C:=C) (k:=k) (H:=H0 ++ os₅.map AObj.raw ++ [AObj.list (outs i),AObj.ns es]) hidx (hz i) fi' σ₁.loc σ₁.cm _ cc fd' W₈ { s with heap:=h₈,toks:=tk₈ } _ _ _ (ok'.le (Nat.le_succ _)) R8 (.cons (.ref (by rw [e55]; exact (l4.trans (l5.trans (l6.trans (l7.trans l8)))).φ _ _ eD)) (.cons V8 .nil)) fun W₉ _ h₉ tk₉ l9 R9 _=>?_
        have eset:(H0 ++ os₅.map AObj.raw ++ [AObj.list (outs i),AObj.ns es]).set (H0.length + os₅.length) (.list (outs i ++ [y])) = H0 ++ os₅.map AObj.raw ++ [AObj.list (outs i ++ [y]),AObj.ns es]:=by
          rw [List.set_append_right _ _ (by simp)]; simp
        rw [eset] at R9
        exact again W₉ h₉ tk₉ _ (l8.trans l9) R9 hy.symm
      | false=>
        simp only [Bool.false_eq_true,if_false]
        exact again W₇ h₇ tk₇ _ (.refl _) R7 (hF' rfl).symm
    . have hin:i = items.length:=by lia
      subst hin
      refine T.done { s with heap:=h₄,toks:=tk } _ _ st fun h₅ tk₅ hk₅=>?_
      have e4:os₄.length = os.length:=ho₄.trans ho.symm
      have gD:(H0 ++ os₄.map AObj.raw ++ [AObj.list (outs items.length),AObj.ns []])[H0.length + os₄.length]? = some (.list (outs items.length)):=by
        rw [List.getElem?_append_right (by simp)]; simp
      have gC:(H0 ++ os₄.map AObj.raw ++ [AObj.list (outs items.length),AObj.ns []])[H0.length + os₄.length + 1]? = some (.ns []):=by
        rw [List.getElem?_append_right (by simp)]; simp
      have fD:W₄.φ[H0.length + os₄.length]? = some h₂.objs.size:=by rw [e4]; exact l4.φ _ _ eD
      have fC:W₄.φ[H0.length + os₄.length + 1]? = some hD.objs.size:=by rw [e4]; exact l4.φ _ _ eC
      refine e1a3 (R4.obj _ _ _ fD gD) fun oD d1 d2 d3 d4=>?_
      refine e1a3 (R4.obj _ _ _ fC gC) fun oC' c1 c2 c3 c4=>?_
      refine e2a1 (ORel.list_i d4) fun vs nD hqa rD=>?_; subst hqa
      refine e2a2 (ORel.ns_i c4) fun mC _ noC' _ _=>?_
      have nd:=R4.nd
      have inj:∀ {i j:Nat} {a:Addr},W₄.φ[i]? = some a -> W₄.φ[j]? = some a -> i = j:=fun {i j a} e1 e2=>(List.getElem?_inj (List.getElem?_eq_some_iff.mp e1).1 nd).mp (e1.trans e2.symm)
      have wrat:∀ b ∈ wr,∃ t,t < os₄.length /\ W₄.φ[H0.length + t]? = some b:=fun b hb=>by
        refine e1a0 (List.mem_iff_getElem?.mp hb) fun t ht=>?_
        exact ⟨t,by have:=(List.getElem?_eq_some_iff.mp ht).1; lia,(l3.trans l4).φ _ _ (hφ t b ht)⟩
      have cnw:hD.objs.size ∉ wr:=fun hb=>by
        refine e1a1 (wrat _ hb) fun t ht e=>?_
        have:=inj e fC; lia
      have keepC:h₅.get? hD.objs.size = some oC':=hk₅ _ _ cnw c1
      have Dnw:h₂.objs.size ∉ wr:=fun hb=>by
        refine e1a1 (wrat _ hb) fun t ht e=>?_
        have:=inj e fD; lia
      have Dne:h₂.objs.size ≠ hD.objs.size:=fun q=>by
        have:=inj (q ▸ fD) fC; lia
      have Rc:RelF fd' (W₄.cut H0.length) ⟨loc',σ₁.cm,H0,none,[]⟩ h₄:=RelF.cut R4 (n:=H0.length) (H':=H0) (loc':=loc') (cm':=σ₁.cm) (ci':=none) (cc':=[]) (by
          show (H0 ++ os₄.map AObj.raw ++ [AObj.list (outs items.length),AObj.ns []]).take _ = _
          rw [List.append_assoc]; simp) rfl hlH.get (fun x v e=>⟨hll x v e,hlL x v e⟩) (fun x i e=>⟨e,hcl0 x i e⟩) (fun i e=>by exact nse e) (fun x i e=>by exact nse e)
      have offp:∀ {i:Nat} {b:Addr} {o:AObj},W₄.φ[i]? = some b -> (H0 ++ os₄.map AObj.raw ++ [AObj.list (outs items.length),AObj.ns []])[i]? = some o -> o ≠ .dead -> H0.length <= i -> b ∉ (W₄.cut H0.length).adr:=fun {i b o} e1 e2 hd hi hm=>by
        rcases List.mem_append.mp hm with hm | hm
        . have hm:b ∈ W₄.φ.take H0.length:=hm
          refine e1a0 (List.mem_iff_getElem?.mp hm) fun j hj=>?_
          have hjl:j < H0.length:=by have:=(List.getElem?_eq_some_iff.mp hj).1; rw [List.length_take] at this; lia
          rw [List.getElem?_take_of_lt hjl] at hj
          have:=inj hj e1; lia
        . have hm:b ∈ W₄.Z.map (·.1):=hm
          refine e1a1 (List.mem_map.mp hm) fun p hp hqa=>?_; subst hqa
          have:=(R4.frz p hp).2.2.2 _ e1
          have e3:(H0 ++ os₄.map AObj.raw ++ [AObj.list (outs items.length),AObj.ns []])[i]? = some .dead:=this
          rw [e2] at e3; obtain rfl:=Option.some.inj e3; exact hd rfl
      have Ro:=Rc.off (wr:=wr) (h':=h₅) hk₅ (fun b hb=>?_)
      . rw [hP9]
        refine bk _ h₂.objs.size vs nD h₅ tk₅ hD.objs.size mC _ ?_ ⟨Ro.fr,Ro.len,Ro.nd,Ro.obj,Ro.frz,Ro.cel,(fun i e=>by rw [hci] at e; exact nse e),(fun x i e=>by rw [hck] at e; exact nse e),Ro.dn⟩ (hk₅ _ _ Dnw d1) d2 d3 (offp fD gD (by intro e; cases e) (by lia)) ?_ (noC'.ns keepC) (offp fC gC (by intro e; cases e) (by lia)) c2 c3 Dne
        . exact Wd.cut_mono hle (l1.trans (l2.trans (l3.trans l4)))
        . exact VRels.cut rD hlo
      . refine e1a1 (wrat _ hb) fun t ht e=>?_
        have gt:(H0 ++ os₄.map AObj.raw ++ [AObj.list (outs items.length),AObj.ns []])[H0.length + t]? = some (.raw os₄[t]):=Zft ht
        refine e1a3 (R4.obj _ _ _ e gt) fun _ _ q1 q2 _=>?_
        exact ⟨offp e gt (by intro e; cases e) (by lia),q1,q2⟩
  rw [hP9] at loop
  exact codeAny_compStart_list (loop _) (T.self 0 _ _ _ st3 (loop _))
theorem Zez {nF:Nat} {elt iter target:Expr} {ifs:List Expr} {scope:Scope} {pos:Pos} {p:PV} {items:List PV} {m:Nat} {H0:List AObj} {cc:List (Str × Nat)} {loc':List (Str × PV)} (outs:Nat -> List PV)
    (hcmp:fi.cmp = none) (h:Ev C (k + 1) fi σ iter p σ₁) (S:ZbI σ₁.H p H0 m items) (hT:Zem m target)
    (hcc:CcOk scope.names σ.cm cc) (hfr:∀ x ∈ scope.names,x.2 = .free -> (lkN x.1 σ.cm).isSome = true)
    (hcell:∀ y ∈ scope.names,y.2 ≠ .cell) (hkind:scope.kind = .function) (hnames:∀ y ∈ scope.names,y.2 = .local -> scope.names.lookup y.1 = some .local)
    (h0:outs 0 = []) (hz:∀ i,(outs i).length <= 100000) (hlo:PV.lims H0.length (outs items.length) = true)
    (hlH:LimH H0.length H0) (hlL:LimL H0.length loc') (hll:∀ x v,lk x loc' = some v -> lk x σ₁.loc = some v) (hci:σ₁.ci = none) (hck:σ₁.cc = []) (hcl0:∀ x i,lkN x σ₁.cm = some i -> i < H0.length) (hle:nF <= H0.length)
    (turn:∀ i q,items[i]? = some q -> ∀ os:List Obj,os.length = m -> ∃ es b,AsJ C (k + 1) { fi with cmp:=some scope } (Zp σ₁ H0 os (outs i) [] cc) target q (Zp σ₁ H0 os (outs i) es cc) /\
      TestsJ C (k + 1) { fi with cmp:=some scope } (Zp σ₁ H0 os (outs i) es cc) ifs b /\
      (b = true -> ∃ v,outs (i + 1) = outs i ++ [v] /\ Ev C (k + 1) { fi with cmp:=some scope } (Zp σ₁ H0 os (outs i) es cc) elt v (Zp σ₁ H0 os (outs i) es cc)) /\ (b = false -> outs (i + 1) = outs i))
    (hs:∀ env x,foldedSetIterable iter env x = pure x:=by intro _ _; rfl) :
    EvNF nF C (k + 1) fi σ (.ListComp elt [⟨target,iter,ifs,0⟩] scope pos) (outs items.length) { σ₁ with H:=H0,loc:=loc' }:=by
  intro fd W s Q E ok R bk
  show wpAny _ _ (eval _ (fd.ev fi)) _ _ _
  rw [Zar hcmp,eval_ListComp]
  refine Zed (use:=none) outs hcmp h S hT hcc hfr hcell hkind hnames h0 hz hlo hlH hlL hll hci hck hcl0 hle turn hs ok R fun W' D vs m h' tk' Ca mC _ l R' hD hDL hDb hDa V hN hCa hCL hCb hDC=>?_
  exact ⟨mC,hN,fun h₆ hs₆=>bk W' D vs m h₆ tk' l (R'.off (wr:=[Ca]) (fun b o hb e=>(hs₆.2 b (fun q=>hb (by rw [q]; exact .head _))).trans e) (fun b hb=>by rw [List.mem_singleton.mp hb]; exact ⟨hCa,hCL,hCb⟩)) ((hs₆.2 _ hDC).trans hD) hDL hDb hDa V⟩
theorem Zf2 {elt iter target:Expr} {ifs:List Expr} {scope:Scope} {pos:Pos} {p:PV} {items:List PV} {m:Nat} {H0:List AObj} {cc:List (Str × Nat)} {loc':List (Str × PV)} (outs:Nat -> List PV)
    (hcmp:fi.cmp = none) (h:Ev C (k + 1) fi σ iter p σ₁) (S:ZbI σ₁.H p H0 m items) (hT:Zem m target)
    (hcc:CcOk scope.names σ.cm cc) (hfr:∀ x ∈ scope.names,x.2 = .free -> (lkN x.1 σ.cm).isSome = true)
    (hcell:∀ y ∈ scope.names,y.2 ≠ .cell) (hkind:scope.kind = .function) (hnames:∀ y ∈ scope.names,y.2 = .local -> scope.names.lookup y.1 = some .local)
    (h0:outs 0 = []) (hz:∀ i,(outs i).length <= 100000) (hlo:PV.lims H0.length (outs items.length) = true)
    (hlH:LimH H0.length H0) (hlL:LimL H0.length loc') (hll:∀ x v,lk x loc' = some v -> lk x σ₁.loc = some v) (hci:σ₁.ci = none) (hck:σ₁.cc = []) (hcl0:∀ x i,lkN x σ₁.cm = some i -> i < H0.length) (hle:σ.H.length <= H0.length)
    (turn:∀ i q,items[i]? = some q -> ∀ os:List Obj,os.length = m -> ∃ es b,AsJ C (k + 1) { fi with cmp:=some scope } (Zp σ₁ H0 os (outs i) [] cc) target q (Zp σ₁ H0 os (outs i) es cc) /\
      TestsJ C (k + 1) { fi with cmp:=some scope } (Zp σ₁ H0 os (outs i) es cc) ifs b /\
      (b = true -> ∃ v,outs (i + 1) = outs i ++ [v] /\ Ev C (k + 1) { fi with cmp:=some scope } (Zp σ₁ H0 os (outs i) es cc) elt v (Zp σ₁ H0 os (outs i) es cc)) /\ (b = false -> outs (i + 1) = outs i))
    (hs:∀ env x,foldedSetIterable iter env x = pure x:=by intro _ _; rfl) :
    EvN C (k + 1) fi σ (.ListComp elt [⟨target,iter,ifs,0⟩] scope pos) (outs items.length) { σ₁ with H:=H0,loc:=loc' }:=
  (Zez (nF:=H0.length) outs hcmp h S hT hcc hfr hcell hkind hnames h0 hz hlo hlH hlL hll hci hck hcl0 (Nat.le_refl _) turn hs).n hle
end
structure FD where
  name:Str
  qual:Str
  params:Arguments
  body:List Stmt
  scope:Scope
noncomputable def fdOf (q:Str) (s:Stmt):FD:=by
  cases s with
  | FunctionDef name args body _ _ _ scope _ _ _=>exact ⟨name,q ++ name,args,body,scope⟩
  | _=>exact ⟨"", "", ⟨[],[],none,[],[],none,[]⟩,[],{ kind:=.module,names:=[],isGenerator:=false,isCoroutine:=false }⟩
noncomputable def stAt (l:List Stmt) (i:Nat):Stmt:=l.getD i (.Pass ⟨0,0,0,0⟩)
noncomputable def ZlJ (s:Stmt):List Stmt:=by
  cases s with
  | ClassDef _ _ _ body _ _ _ _ _ _ _=>exact body
  | _=>exact []
noncomputable def Zh (s:Stmt):List Stmt:=by
  cases s with
  | For _ _ b _ _=>exact b
  | _=>exact []
noncomputable def FN (i:Nat):FD:=fdOf "" (stAt PySem.Challenge.pw_nn0066_01.main.body i)
noncomputable def MT (i j:Nat) (cls:Str):FD:=fdOf (cls ++ ".") (stAt (ZlJ (stAt PySem.Challenge.pw_nn0066_01.main.body i)) j)
noncomputable def ZeL (v:Value):Option Addr:=by
  cases v with
  | ref a=>exact some a
  | _=>exact none
noncomputable def Zlx (v:Value):Option Int:=by
  cases v with
  | int a _=>exact some a
  | _=>exact none
noncomputable def Zk4 (v:Value):Option Str:=by
  cases v with
  | str a _=>exact some a
  | _=>exact none
theorem ZeK {v:Value} {a:Addr} (h:ZeL v = some a):v = .ref a:=by
  cases v with
  | ref b=>exact congrArg Value.ref (Option.some.inj h)
  | _=>exact nse h
theorem ZhA {v:Value} {a:Int} (h:Zlx v = some a):∃ t,v = .int a t:=by
  cases v with
  | int b t=>exact ⟨t,congrArg (Value.int · t) (Option.some.inj h)⟩
  | _=>exact nse h
theorem ZgV {v:Value} {a:Str} (h:Zk4 v = some a):∃ t,v = .str a t:=by
  cases v with
  | str b t=>exact ⟨t,congrArg (Value.str · t) (Option.some.inj h)⟩
  | _=>exact nse h
noncomputable def oo {α:Type} (f:Value -> Option α) (o:Option (Option Value)):Option α:=(o.bind id).bind f
theorem oo_e {α:Type} {f:Value -> Option α} {o:Option (Option Value)} {a:α} (h:oo f o = some a):∃ v,o = some (some v) /\ f v = some a:=by
  refine e1a1 (Option.bind_eq_some_iff.mp h) fun v h1 h2=>?_
  refine e1a1 (Option.bind_eq_some_iff.mp h1) fun w h3 h4=>?_
  exact ⟨v,h3.trans (congrArg some h4),h2⟩
noncomputable def ga (K:Frag) (x:Str):Addr:=(oo ZeL (nsIn K mainGlobals x)).getD 0
noncomputable def ma (K:Frag) (c x:Str):Addr:=(oo ZeL (findIn K (.ref (ga K c)) x)).getD 0
noncomputable def fo (K:Frag) (a:Addr):Obj:=(K.lookup a).getD default
noncomputable def ZnB (d:Data):FuncData:=by
  cases d with
  | func d=>exact d
  | _=>exact default
noncomputable def ZL (K:Frag) (a:Addr):FuncData:=ZnB (fo K a).data
noncomputable def ZeR (v:Value):Bool:=by
  cases v with
  | none=>exact true
  | _=>exact false
theorem Zd5 {v:Value} (h:ZeR v = true):v = .none:=by
  cases v with
  | none=>rfl
  | _=>exact ft h
structure Fnc (K:Frag) (a:Addr) (d:FD):Prop where
  obj:K.lookup a = some ⟨(fo K a).cls,(fo K a).dict,.func (fnOf d.name d.qual d.params d.body d.scope (ZL K a).defaults (ZL K a).kwdefaults (ZL K a).doc (ZL K a).pyModule (ZL K a).annotations (ZL K a).code (ZL K a).closureTuple),(fo K a).slots⟩
  code:codeIn K (ZL K a).code d.qual = true
  isfn:isFn K (.ref a) = true
  dflt:(!d.params.defaults.isEmpty || ZeR (ZL K a).defaults) = true
noncomputable def ZaW (d:FD) (names:List Str):Bool:=names.all (fun x=>d.scope.names.lookup x == some .local) && d.scope.names.all (fun x=>x.2 != .cell) && !d.scope.isCoroutine && !d.scope.isGenerator && d.scope.kind == .function
noncomputable abbrev ZfH (K:Frag) (a:Addr) (d:FD):FuncData:=fnOf d.name d.qual d.params d.body d.scope (ZL K a).defaults (ZL K a).kwdefaults (ZL K a).doc (ZL K a).pyModule (ZL K a).annotations (ZL K a).code (ZL K a).closureTuple
noncomputable def Zfk (C:Cx) (a:Addr) (d:FD) (names:List Str) (n:Nat) (dvs:List Value):Prop:=∀ (s:Shared) (vs:List Value),C.K.In s.heap -> vs.length = n -> BindsTo s (ZfH C.K a d) ⟨vs,[]⟩ (names.zip (vs ++ dvs))
section
variable {C:Cx} {k:Nat}
theorem Zds {a:Addr} {d:FD} {names:List Str} {args dps:List PV} {dvs:List Value} {H H':List AObj} {r:PV} {σ':St} {loc:List (Str × PV)} {o:Out} (F:Fnc C.K a d) (hp:ZaW d names = true) (hb:Zfk C a d names args.length dvs) (hd:∀ W,VRels W dps dvs) (hloc:loc = (names.zip (args ++ dps)).reverse)
    (hmain:LimH H.length H -> PV.lims H.length args = true -> Ex C k ⟨d.qual,d.scope,a,(ZL C.K a).code,none⟩ ⟨loc,[],H,none,[]⟩ d.body o σ' /\ LimH H'.length H' /\ PV.lim H'.length r = true) (hr:Rets o r)
    (hH:σ'.H.take H'.length = H') (hle:H.length <= H'.length):CodeJ C (k + 1) (.ref a) args H r H':=by
  simp only [ZaW,Bool.and_eq_true,Bool.not_eq_true',beq_iff_eq] at hp
  obtain ⟨⟨⟨⟨p1,p2⟩,p3⟩,p4⟩,p5⟩:=hp
  refine Zj2 F.obj F.code hb hd (fun x hx=>?_) (fun x hx=>?_) p3 p4 p5 hloc hmain hr hH hle
  . have:=List.all_eq_true.mp p1 x hx
    exact beq_iff_eq.mp this
  . have:=List.all_eq_true.mp p2 x hx
    exact bne_iff_ne.mp this
theorem Zcr {a:Addr} {d:FD} {names:List Str} {args:List PV} {H H':List AObj} {r:PV} {σ':St} {loc:List (Str × PV)} {o:Out} (F:Fnc C.K a d) (hp:ZaW d names = true) (hb:Zfk C a d names args.length []) (hloc:loc = (names.zip args).reverse)
    (hmain:LimH H.length H -> PV.lims H.length args = true -> Ex C k ⟨d.qual,d.scope,a,(ZL C.K a).code,none⟩ ⟨loc,[],H,none,[]⟩ d.body o σ' /\ LimH H'.length H' /\ PV.lim H'.length r = true) (hr:Rets o r)
    (hH:σ'.H.take H'.length = H') (hle:H.length <= H'.length):CodeJ C (k + 1) (.ref a) args H r H':=
  Zds F hp hb (fun _=>.nil) (by rw [hloc,List.append_nil]) hmain hr hH hle
noncomputable def ZhK (d:FD) (names:List Str):Bool:=names.all (fun x=>d.scope.names.lookup x == some .local || d.scope.names.lookup x == some .cell) && !d.scope.isCoroutine && !d.scope.isGenerator && d.scope.kind == .function
theorem Zb4 {a:Addr} {d:FD} {names:List Str} {args:List PV} {offs cm:List (Str × Nat)} {H H' cobs:List AObj} {r:PV} {σ':St} {loc:List (Str × PV)} {o:Out} (F:Fnc C.K a d) (hp:ZhK d names = true) (hb:Zfk C a d names args.length [])
    (hcl:∀ n,cellsFrom n d.scope.names [] = offs.map fun p=>(p.1,n + p.2)) (hnd1:(offs.map (·.1)).Nodup) (hnd:(offs.map (·.2)).Nodup)
    (hloc:loc = ((names.zip args).filter fun y=>decide (d.scope.names.lookup y.1 = some .local)).reverse)
    (hcob:cobs = offs.map fun p=>.cell (lk p.1 ((names.zip args).filter fun y=>!decide (d.scope.names.lookup y.1 = some .local)).reverse)) (hcm:cm = cmOf H.length offs)
    (hmain:LimH H.length H -> PV.lims H.length args = true -> Ex C k ⟨d.qual,d.scope,a,(ZL C.K a).code,none⟩ ⟨loc,cm,H ++ cobs,none,[]⟩ d.body o σ' /\ LimH H'.length H' /\ PV.lim H'.length r = true) (hr:Rets o r)
    (hH:σ'.H.take H'.length = H') (hle:H.length <= H'.length):CodeJ C (k + 1) (.ref a) args H r H':=by
  simp only [ZhK,Bool.and_eq_true,Bool.not_eq_true',beq_iff_eq] at hp
  obtain ⟨⟨⟨p1,p3⟩,p4⟩,p5⟩:=hp
  subst hcm
  refine ZgI F.obj F.code (fun s vs X e=>by have:=hb s vs X e; rwa [List.append_nil] at this) (fun x hx=>?_) hcl hnd1 hnd p3 p4 p5 hloc hcob hmain hr hH hle
  have:=List.all_eq_true.mp p1 x hx
  rcases Bool.or_eq_true_iff.mp this with q | q
  . exact .inl (beq_iff_eq.mp q)
  . exact .inr (beq_iff_eq.mp q)
end
theorem len1 {vs:List Value} (h:vs.length = 1):∃ a,vs = [a]:=List.length_eq_one_iff.mp h
theorem Zho {n:Nat} {vs:List Value} (h:vs.length = n + 1):∃ a r,vs = a :: r /\ r.length = n:=by
  cases vs with
  | nil=>cases h
  | cons a r=>exact ⟨a,r,rfl,Nat.succ.inj h⟩
theorem len2 {vs:List Value} (h:vs.length = 2):∃ a b,vs = [a,b]:=by
  refine e2a1 (Zho h) fun a r hqa h9=>?_; subst hqa; refine e1a0 (len1 h9) fun b hqa=>?_; subst hqa; exact ⟨a,b,rfl⟩
theorem len3 {vs:List Value} (h:vs.length = 3):∃ a b c,vs = [a,b,c]:=by
  refine e2a1 (Zho h) fun a r hqa h9=>?_; subst hqa; refine e2a0 (len2 h9) fun b c hqa=>?_; subst hqa; exact ⟨a,b,c,rfl⟩
theorem len4 {vs:List Value} (h:vs.length = 4):∃ a b c d,vs = [a,b,c,d]:=by
  refine e2a1 (Zho h) fun a r hqa h9=>?_; subst hqa; refine e3a0 (len3 h9) fun b c d hqa=>?_; subst hqa; exact ⟨a,b,c,d,rfl⟩
theorem len5 {vs:List Value} (h:vs.length = 5):∃ a b c d e,vs = [a,b,c,d,e]:=by
  refine e2a1 (Zho h) fun a r hqa h9=>?_; subst hqa; refine e4a0 (len4 h9) fun b c d e hqa=>?_; subst hqa; exact ⟨a,b,c,d,e,rfl⟩
theorem len6 {vs:List Value} (h:vs.length = 6):∃ a b c d e f,vs = [a,b,c,d,e,f]:=by
  refine e2a1 (Zho h) fun a r hqa h9=>?_; subst hqa; refine e5a0 (len5 h9) fun b c d e f hqa=>?_; subst hqa; exact ⟨a,b,c,d,e,f,rfl⟩
noncomputable def gNames:List Str:=(["MintError", "OperandError", "MachineError", "mask", "wrap", "bit", "is_xmm", "need_aligned", "whole_move", "part_size", "part_move", "lanes", "joined_transfers", "lane_size", "lane_worth", "lane_result", "bit_result", "vector_move", "vector_deed", "codes_of", "InstructionSet", "Flags", "Register", "early_names", "late_ending", "gpr", "xmm", "Memory", "joined_machine", "State", "Operand", "Reg", "Mem", "Instruction",
  "_law_vectors", "_law_worth", "_law_octs", "_law_done", "_law_ways", "_law_bits", "_law_operand", "law"]:List String).map Str.ofString
noncomputable def bNames:List Str:=(["range", "len", "list", "tuple", "zip", "sorted", "str", "Exception", "bytes"]:List String).map Str.ofString
noncomputable def sNames:List (Str × Str):=([("LETTERS", "bwdq"),("WHOLE_MOVES", "movaps movups movdqa movdqu"),("ALIGNED_MOVES", "movaps movdqa"),("BIT_NAMES", "pxor por pand pandn xorps orps andps"),
  ("NAMES_8", "al cl dl bl spl bpl sil dil"),("NAMES_16", "ax cx dx bx sp bp si di"),("NAMES_32", "eax ecx edx ebx esp ebp esi edi"),("NAMES_64", "rax rcx rdx rbx rsp rbp rsi rdi"),
  ("_law_names", "movaps movups movdqa movdqu movss movsd movd movq pxor por pand pandn paddb paddw paddd paddq psubb psubw psubd psubq pcmpeqb pcmpeqw pcmpeqd xorps andps orps"),
  ("_law_aligned", "movaps movdqa pxor por pand pandn paddb paddw paddd paddq psubb psubw psubd psubq pcmpeqb pcmpeqw pcmpeqd xorps andps orps")]:List (String × String)).map fun p=>(Str.ofString p.1,Str.ofString p.2)
noncomputable def cNames:List (Str × List Str):=([("InstructionSet", ["forms", "by_name", "by_code"]),("Flags", ["cf", "pf", "af", "zf", "sf", "of", "df"]),("Register", ["name", "kind", "number", "size"]),("Memory", ["held"]),
  ("State", ["iset", "regs", "xmm", "flags", "memory", "rip", "begin", "segments", "is_halted"]),("Reg", ["kind", "register"]),("Mem", ["kind", "base", "index", "scale", "worth", "size", "segment", "name"]),("Instruction", ["name", "operands", "prefix"])]:List (String × List String)).map fun p=>(Str.ofString p.1,p.2.map Str.ofString)
noncomputable def mNames:List (Str × Str):=([("InstructionSet", "__init__"),("Flags", "__init__"),("Flags", "told"),("Register", "__init__"),("Memory", "__init__"),("Memory", "octet"),("Memory", "set_octet"),("Memory", "read"),("Memory", "write"),("Memory", "written"),
  ("State", "__init__"),("State", "get"),("State", "put"),("State", "put_low"),("State", "offset"),("State", "place"),("State", "read"),("State", "write"),("Reg", "__init__"),("Mem", "__init__"),("Instruction", "__init__"),("Operand", "__init__"),("MachineError", "__init__")]:List (String × String)).map fun p=>(Str.ofString p.1,Str.ofString p.2)
noncomputable def Zm5 (K:Frag) (x y:Str):Bool:=oo Zk4 (nsIn K mainGlobals x) == some y
noncomputable def Znx (K:Frag) (x:Str) (i:Int):Bool:=oo Zlx (nsIn K mainGlobals x) == some i
noncomputable def Zg5 (o:Option (Option Value)):Bool:=(oo ZeL o).isSome
theorem Zg4 {o:Option (Option Value)} (h:Zg5 o = true):o = some (some (.ref ((oo ZeL o).getD 0))):=by
  refine e1a0 (Option.isSome_iff_exists.mp h) fun a h=>?_
  refine e1a1 (oo_e h) fun v h1 h2=>?_
  rw [h]; exact h1.trans (congrArg (fun v=>some (some v)) (ZeK h2))
noncomputable def Zi0 (K:Frag) (C:Addr) (ns:List Str):Bool:=makesIn K C && plainGet K C "" && hasDictIn K C && findIn K (.ref C) "__setattr__" == some (some (.builtin "object.__setattr__")) && plainOver K C && ns.all fun n=>findIn K (.ref C) n == some none
noncomputable def okK (K:Frag):Bool:=gNames.all (fun x=>Zg5 (nsIn K mainGlobals x)) && bNames.all (fun x=>nsIn K mainGlobals x == some none) && sNames.all (fun p=>Zm5 K p.1 p.2) && Znx K "ALL_LANES" 340282366920938463463374607431768211455 &&
  cNames.all (fun p=>Zi0 K (ga K p.1) p.2) && mNames.all (fun p=>Zg5 (findIn K (.ref (ga K p.1)) p.2))
noncomputable def kpK (K:Frag):Bool:=gNames.all (fun x=>keepIn K (.ref (ga K x))) && mNames.all (fun p=>keepIn K (.ref (ma K p.1 p.2)))
noncomputable def cfV (o:CFound):Option Value:=by
  cases o with
  | val v=>exact some v
  | _=>exact none
theorem Zoz {o:CFound} {v:Value} (h:cfV o = some v):o = .val v:=by
  cases o with
  | val b=>exact congrArg CFound.val (Option.some.inj h)
  | _=>exact nse h
noncomputable def Ze2 (K:Frag) (c:Addr) (n:Str) (f:Addr):Bool:=specialIn K (.ref c) "__getattribute__" == some (some (.builtin "type.__getattribute__")) && (typeIn K (.ref c)).any fun mc=>readsIn K c mc && (((findCls K (.ref c) mc n).bind cfV).bind ZeL == some f)
structure KF (K:Frag):Prop where
  ok:okK K = true
  kp:kpK K = true
  cm:Ze2 K (ga K "Operand") "__init__" (ma K "Operand" "__init__") = true
  f_mask:Fnc K (ga K "mask") (FN 5)
  f_wrap:Fnc K (ga K "wrap") (FN 6)
  f_is_xmm:Fnc K (ga K "is_xmm") (FN 14)
  f_need_aligned:Fnc K (ga K "need_aligned") (FN 15)
  f_whole_move:Fnc K (ga K "whole_move") (FN 16)
  f_part_size:Fnc K (ga K "part_size") (FN 17)
  f_part_move:Fnc K (ga K "part_move") (FN 18)
  f_lanes:Fnc K (ga K "lanes") (FN 19)
  f_joined:Fnc K (ga K "joined_transfers") (FN 20)
  f_lane_size:Fnc K (ga K "lane_size") (FN 22)
  f_lane_worth:Fnc K (ga K "lane_worth") (FN 23)
  f_lane_result:Fnc K (ga K "lane_result") (FN 24)
  f_bit_result:Fnc K (ga K "bit_result") (FN 25)
  f_vector_move:Fnc K (ga K "vector_move") (FN 26)
  f_vector_deed:Fnc K (ga K "vector_deed") (FN 27)
  f_early_names:Fnc K (ga K "early_names") (FN 47)
  f_late_ending:Fnc K (ga K "late_ending") (FN 48)
  f_gpr:Fnc K (ga K "gpr") (FN 49)
  f_xmm:Fnc K (ga K "xmm") (FN 50)
  f_joinedM:Fnc K (ga K "joined_machine") (FN 53)
  f_vectors:Fnc K (ga K "_law_vectors") (FN 64)
  f_worth:Fnc K (ga K "_law_worth") (FN 65)
  f_octs:Fnc K (ga K "_law_octs") (FN 66)
  f_done:Fnc K (ga K "_law_done") (FN 67)
  f_ways:Fnc K (ga K "_law_ways") (FN 68)
  f_bits:Fnc K (ga K "_law_bits") (FN 69)
  f_operand:Fnc K (ga K "_law_operand") (FN 70)
  m_iset:Fnc K (ma K "InstructionSet" "__init__") (MT 30 0 "InstructionSet")
  m_flags:Fnc K (ma K "Flags" "__init__") (MT 40 0 "Flags")
  m_told:Fnc K (ma K "Flags" "told") (MT 40 1 "Flags")
  m_register:Fnc K (ma K "Register" "__init__") (MT 46 0 "Register")
  m_memory:Fnc K (ma K "Memory" "__init__") (MT 52 0 "Memory")
  m_octet:Fnc K (ma K "Memory" "octet") (MT 52 1 "Memory")
  m_set_octet:Fnc K (ma K "Memory" "set_octet") (MT 52 2 "Memory")
  m_mread:Fnc K (ma K "Memory" "read") (MT 52 3 "Memory")
  m_mwrite:Fnc K (ma K "Memory" "write") (MT 52 4 "Memory")
  m_written:Fnc K (ma K "Memory" "written") (MT 52 7 "Memory")
  m_state:Fnc K (ma K "State" "__init__") (MT 55 0 "State")
  m_get:Fnc K (ma K "State" "get") (MT 55 1 "State")
  m_put:Fnc K (ma K "State" "put") (MT 55 2 "State")
  m_put_low:Fnc K (ma K "State" "put_low") (MT 55 3 "State")
  m_offset:Fnc K (ma K "State" "offset") (MT 55 5 "State")
  m_place:Fnc K (ma K "State" "place") (MT 55 6 "State")
  m_read:Fnc K (ma K "State" "read") (MT 55 8 "State")
  m_write:Fnc K (ma K "State" "write") (MT 55 9 "State")
  m_operand:Fnc K (ma K "Operand" "__init__") (MT 57 0 "Operand")
  m_reg:Fnc K (ma K "Reg" "__init__") (MT 58 0 "Reg")
  m_mem:Fnc K (ma K "Mem" "__init__") (MT 59 0 "Mem")
  m_instr:Fnc K (ma K "Instruction" "__init__") (MT 60 0 "Instruction")
  m_err:Fnc K (ma K "MachineError" "__init__") (MT 2 0 "MintError")
section
variable {K:Frag} (h:okK K = true)
include h
theorem Za4:(gNames.all (fun x=>Zg5 (nsIn K mainGlobals x)) = true ∧ bNames.all (fun x=>nsIn K mainGlobals x == some none) = true ∧ sNames.all (fun p=>Zm5 K p.1 p.2) = true) ∧ Znx K "ALL_LANES" 340282366920938463463374607431768211455 = true ∧
  cNames.all (fun p=>Zi0 K (ga K p.1) p.2) = true /\ mNames.all (fun p=>Zg5 (findIn K (.ref (ga K p.1)) p.2)) = true:=by
  unfold okK at h
  simp only [Bool.and_eq_true] at h
  obtain ⟨⟨⟨⟨⟨a,b⟩,c⟩,d⟩,e⟩,f⟩:=h
  exact ⟨⟨a,b,c⟩,d,e,f⟩
theorem ok_g {x:Str} (hx:gNames.contains x = true):nsIn K mainGlobals x = some (some (.ref (ga K x))):=by
  have:=List.all_eq_true.mp (Za4 h).1.1 x (List.contains_iff_mem.mp hx)
  exact Zg4 this
theorem ok_b {x:Str} (hx:bNames.contains x = true):nsIn K mainGlobals x = some none:=beq_iff_eq.mp (List.all_eq_true.mp (Za4 h).1.2.1 x (List.contains_iff_mem.mp hx))
theorem ok_s {x y:Str} (hx:sNames.contains (x,y) = true):∃ t,nsIn K mainGlobals x = some (some (.str y t)):=by
  have:=List.all_eq_true.mp (Za4 h).1.2.2 (x,y) (List.contains_iff_mem.mp hx)
  refine e1a1 (oo_e (beq_iff_eq.mp this)) fun v h1 h2=>?_
  refine e1a0 (ZgV h2) fun t hqa=>?_; subst hqa
  exact ⟨t,h1⟩
theorem ok_i:∃ t,nsIn K mainGlobals "ALL_LANES" = some (some (.int 340282366920938463463374607431768211455 t)):=by
  have:=(Za4 h).2.1
  refine e1a1 (oo_e (beq_iff_eq.mp this)) fun v h1 h2=>?_
  refine e1a0 (ZhA h2) fun t hqa=>?_; subst hqa
  exact ⟨t,h1⟩
theorem ok_m {c x:Str} (hx:mNames.contains (c,x) = true):findIn K (.ref (ga K c)) x = some (some (.ref (ma K c x))):=by
  have:=List.all_eq_true.mp (Za4 h).2.2.2 (c,x) (List.contains_iff_mem.mp hx)
  exact Zg4 this
theorem ok_c {c:Str} {ns:List Str} (hx:cNames.contains (c,ns) = true):makesIn K (ga K c) = true /\ ZgL K (ga K c) /\ ∀ n,ns.contains n = true -> findIn K (.ref (ga K c)) n = some none:=by
  have:=List.all_eq_true.mp (Za4 h).2.2.1 (c,ns) (List.contains_iff_mem.mp hx)
  have this:Zi0 K (ga K c) ns = true:=this
  unfold Zi0 at this
  simp only [Bool.and_eq_true,beq_iff_eq] at this
  obtain ⟨⟨⟨⟨⟨a,b⟩,d⟩,e⟩,f⟩,g⟩:=this
  exact ⟨a,⟨b,d,e,f⟩,fun n hn=>beq_iff_eq.mp (List.all_eq_true.mp g n (List.contains_iff_mem.mp hn))⟩
end
theorem ZeO {o:Expr} {n:Str} {apos pos:Pos} {es:List Expr} {env:Env} (hb:attributeBase o n env (eval o env) = eval o env) (hst:(starEach es env).any (·.1) = false) (hn:decide (es.length < 30) = true) (hl:(apos.endLine == pos.line) = true) :
    eval ((o.Attribute n apos).Call es [] pos) env = (do
      let ov <- eval o env
      standAt apos.atName
      let (f,first) <- holding [ov] (getMethod ov n (do return (<- importBound o env).getD true))
      callWith pos f first (backTo pos (starEach es env)) []):=by
  show (do
    let ov <- attributeBase o n env (eval o env)
    standAt apos.atName
    methodCall o n apos pos env ov (es.length + 0) (backTo pos (starEach es env)) []) = _
  rw [hb]
  have hf:methodCallForm (es.length + 0) (backTo pos (starEach es env)) [] = true:=by
    unfold methodCallForm
    have h1:(backTo pos (starEach es env)).all (fun x=>!x.1) = true:=by
      simp only [backTo,List.all_map,List.all_eq_true]
      rw [List.any_eq_false] at hst
      intro x hx
      have:=hst x hx
      simpa using this
    rw [h1]
    simpa using hn
  unfold methodCall
  rw [hf]
  simp only [calleeOf,methodCallPos,hl,if_true,Bool.not_true,Bool.false_or,pure_bind]
noncomputable def sOf (x:Str):Str:=(sNames.lookup x).getD ""
noncomputable def nsOf (c:Str):List Str:=(cNames.lookup c).getD []
theorem Zf7 {K:Frag} {c:Addr} {n:Str} (h:findIn K (.ref c) n = some none):takerIn K c n = some none:=by unfold takerIn; rw [h]; rfl
section
variable {C:Cx} {k:Nat} {fi:Fi} {σ σ₁ σ₂ σ₃ σ':St} (G:KF C.K)
include G
theorem Ziw {x:Str} {pos:Pos} (hx:gNames.contains x = true) (hk:(kd fi).lookup x = some .globalImplicit) (hd:(x == ("__debug__" : Str)) = false):Ev C k fi σ (.Name x pos) (.con (.ref (ga C.K x))) σ:=Ziv (ok_g G.ok hx) hk hd
theorem Zo0 {x:Str} {pos:Pos} {v:Value} (hb:bootBuiltins x = some v) (hx:bNames.contains x = true) (hn:x ≠ "__name__") (hk:(kd fi).lookup x = some .globalImplicit) (hd:(x == ("__debug__" : Str)) = false):Ev C k fi σ (.Name x pos) (.con v) σ:=ZjW (ok_b G.ok hx) hb hn hk hd
theorem ZoY {x:Str} {pos:Pos} (hx:sNames.contains (x,sOf x) = true) (hk:(kd fi).lookup x = some .globalImplicit) (hd:(x == ("__debug__" : Str)) = false):Ev C k fi σ (.Name x pos) (.str (sOf x)) σ:=by
  refine e1a0 (ok_s G.ok hx) fun t h=>?_
  exact ZjS h hk hd
theorem ZoZ {pos:Pos} (hk:(kd fi).lookup (Str.ofString "ALL_LANES") = some .globalImplicit):Ev C k fi σ (.Name (Str.ofString "ALL_LANES") pos) (.int 340282366920938463463374607431768211455) σ:=by
  refine e1a0 (ok_i G.ok) fun t h=>?_
  exact ZjT h hk (by kernel_rfl)
theorem Ga_i {i d:Nat} {c:Str} {es:List (Str × PV)} {n:Str} {p:PV} (hi:σ.H[i]? = some (.inst (ga C.K c) d)) (hd:σ.H[d]? = some (.attrs es)) (hv:lk n es = some p) (hx:cNames.contains (c,nsOf c) = true) (hn:(nsOf c).contains n = true) (hp:Handed p):GaJ C k fi σ (.ref i) n p σ:=
  Zmt hi hd hv (ok_c G.ok hx).2.1 ((ok_c G.ok hx).2.2 n hn) rfl hp
theorem Ga_o {c:Str} {es:List (Str × PV)} {n:Str} {p:PV} (hv:lk n es = some p) (hx:cNames.contains (c,nsOf c) = true) (hn:(nsOf c).contains n = true) (hp:Handed p):GaJ C k fi σ (.obj (ga C.K c) es) n p σ:=
  Zoa hv (ok_c G.ok hx).2.1 ((ok_c G.ok hx).2.2 n hn) rfl hp
theorem Sa_i {i d:Nat} {c:Str} {es es':List (Str × PV)} {n:Str} {p:PV} (hi:σ.H[i]? = some (.inst (ga C.K c) d)) (hd:σ.H[d]? = some (.attrs es)) (hx:cNames.contains (c,nsOf c) = true) (hn:(nsOf c).contains n = true) (he:stl n p es = es') (hz:es'.length <= 1000) :
    SaJ C k fi σ (.ref i) n p { σ with H:=σ.H.set d (.attrs es') }:=Zma hi hd (ok_c G.ok hx).2.1 (Zf7 ((ok_c G.ok hx).2.2 n hn)) he hz
theorem Me_i {i d:Nat} {c:Str} {es:List (Str × PV)} {n:Str} (hi:σ.H[i]? = some (.inst (ga C.K c) d)) (hd:σ.H[d]? = some (.attrs es)) (hv:lk n es = none) (hx:cNames.contains (c,nsOf c) = true) (hm:mNames.contains (c,n) = true) (hf:isFn C.K (.ref (ma C.K c n)) = true) :
    MeJ C k fi σ (.ref i) n (.ref (ma C.K c n)) [.ref i]:=Zmn hi hd hv (ok_c G.ok hx).2.1 (ok_m G.ok hm) hf
end
theorem Handed.int {i:Int}:Handed (.int i):=fun _ _ h=>VRel.int_e (P:=fun v=>handedIn v = true) h fun _=>rfl
theorem Handed.str {i:Str}:Handed (.str i):=fun _ _ h=>VRel.str_e (P:=fun v=>handedIn v = true) h fun _=>rfl
theorem Handed.none:Handed .none:=fun _ _ h=>VRel.none_e (P:=fun v=>handedIn v = true) h rfl
theorem Handed.ref {i:Nat}:Handed (.ref i):=fun _ _ h=>VRel.ref_e (P:=fun v=>handedIn v = true) h fun _ _=>rfl
theorem Handed.obj {c:Addr} {i:List (Str × PV)}:Handed (.obj c i):=fun _ _ h=>VRel.obj_e (P:=fun v=>handedIn v = true) h fun _ _ _ _ _ _ _=>rfl
theorem Handed.tup {i:List PV}:Handed (.tup i):=fun _ _ h=>VRel.tup_e (P:=fun v=>handedIn v = true) h fun _ _ _ _ _ _ _ _=>rfl
theorem Handed.lst {i:List PV}:Handed (.lst i):=fun _ _ h=>VRel.lst_e (P:=fun v=>handedIn v = true) h fun _ _ _ _ _=>rfl
theorem ZeP {x:Str} {v:PV} {r:List (Str × PV)}:lk x ((x,v) :: r) = some v:=by rw [lk_c,if_pos rfl]
theorem Za5 {x y:Str} {v u:PV} {r:List (Str × PV)} (h:(x == y) = false) (hr:lk x r = some v):lk x ((y,u) :: r) = some v:=by
  rw [lk_c,if_neg (beq_eq_false_iff_ne.mp h)]; exact hr
theorem lk_1 {x a:Str} {v u:PV} {r:List (Str × PV)} (h:(x == a) = false):lk x ((a,u) :: (x,v) :: r) = some v:=Za5 h ZeP
theorem lk_2 {x a b:Str} {v u w:PV} {r:List (Str × PV)} (h:(x == a || x == b) = false):lk x ((a,u) :: (b,w) :: (x,v) :: r) = some v:=Za5 (Bool.or_eq_false_iff.mp h).1 (lk_1 (Bool.or_eq_false_iff.mp h).2)
theorem lk_3 {x a b c:Str} {v u w y:PV} {r:List (Str × PV)} (h:(x == a || (x == b || x == c)) = false) (hr:lk x r = some v):lk x ((a,u) :: (b,w) :: (c,y) :: r) = some v:=
  Za5 (Bool.or_eq_false_iff.mp h).1 (Za5 (Bool.or_eq_false_iff.mp (Bool.or_eq_false_iff.mp h).2).1 (Za5 (Bool.or_eq_false_iff.mp (Bool.or_eq_false_iff.mp h).2).2 hr))
theorem Zi1 {x:Str} {v:Nat} {r:List (Str × Nat)}:lkN x ((x,v) :: r) = some v:=by rw [ZeQ,if_pos rfl]
theorem Zhm {x y:Str} {v u:Nat} {r:List (Str × Nat)} (h:(x == y) = false) (hr:lkN x r = some v):lkN x ((y,u) :: r) = some v:=by
  rw [ZeQ,if_neg (beq_eq_false_iff_ne.mp h)]; exact hr
theorem Zk6 {x:Str} {v:PV}:stl x v [] = [(x,v)]:=rfl
theorem ZiQ {x:Str} {v u:PV} {r:List (Str × PV)}:stl x v ((x,u) :: r) = (x,v) :: r:=by rw [ZgX,if_pos rfl]
theorem ZgW {x y:Str} {v u:PV} {r r':List (Str × PV)} (h:(x == y) = false) (hr:stl x v r = r'):stl x v ((y,u) :: r) = (y,u) :: r':=by
  rw [ZgX,if_neg (beq_eq_false_iff_ne.mp h),hr]
theorem ZK {α:Type} {l r:List α} {i:Nat} {o:α} (h:l[i]? = some o):(l ++ r)[i]? = some o:=by rw [List.getElem?_append_left (List.getElem?_eq_some_iff.mp h).1]; exact h
theorem Zdp {α:Type} {l r:List α} {o:α}:(l ++ o :: r)[l.length]? = some o:=by simp
theorem Zjn {α:Type} {l r:List α} {o o':α}:(l ++ o' :: o :: r)[l.length + 1]? = some o:=by simp
theorem CallJ.cast {C:Cx} {k:Nat} {f:Value} {args:List PV} {H H':List AObj} {r r':PV} (h:CallJ C k f args H r H') (e:r = r'):CallJ C k f args H r' H':=e ▸ h
theorem Ev.cast {C:Cx} {k:Nat} {fi:Fi} {σ σ':St} {e:Expr} {v v':PV} (h:Ev C k fi σ e v σ') (q:v = v'):Ev C k fi σ e v' σ':=q ▸ h
section
variable {C:Cx} {k:Nat} {fi:Fi} {σ σ₁ σ₂ σ₃ σ':St}
theorem Zj {x:Str} {e:Expr} {p pos:Pos} {v:PV} {l loc:List (Str × PV)} {cm:List (Str × Nat)} {H:List AObj} {ci:Option Nat} {cc:List (Str × Nat)} (h:Ev C k fi σ e v ⟨l,cm,H,ci,cc⟩) (hl:stl x v l = loc) (hcm:fi.cmp = none) (hk:(kd fi).lookup x = some .local) (hs:∀ env,swapsWith e (some (.Name x p)) pos.line env = pure false:=by intro _; rfl) :
    Ex1 C k fi σ (.Assign [.Name x p] e pos) .next ⟨loc,cm,H,ci,cc⟩:=by
  subst hl; exact Zin h hcm hk hs
theorem ZcC {x:Str} {e:Expr} {p pos:Pos} {v:PV} {i:Nat} {u:Option PV} {l:List (Str × PV)} {cm:List (Str × Nat)} {H:List AObj} {ci:Option Nat} {cc:List (Str × Nat)} (h:Ev C k fi σ e v ⟨l,cm,H,ci,cc⟩) (hc:lkN x cm = some i) (hv:H[i]? = some (.cell u)) (hcm:fi.cmp = none) (hk:(kd fi).lookup x = some .cell) (hs:∀ env,swapsWith e (some (.Name x p)) pos.line env = pure false:=by intro _; rfl) :
    Ex1 C k fi σ (.Assign [.Name x p] e pos) .next ⟨l,cm,H.set i (.cell (some v)),ci,cc⟩:=ZgD h hc hv hcm hk hs
theorem kp_g (G:KF C.K) {x:Str} (hx:gNames.contains x = true):callable C.K (.ref (ga C.K x)):=by
  have:=G.kp
  unfold kpK at this
  exact .inl (List.all_eq_true.mp (Bool.and_eq_true_iff.mp this).1 x (List.contains_iff_mem.mp hx))
theorem kp_m (G:KF C.K) {c x:Str} (hx:mNames.contains (c,x) = true):callable C.K (.ref (ma C.K c x)):=by
  have:=G.kp
  unfold kpK at this
  exact .inl (List.all_eq_true.mp (Bool.and_eq_true_iff.mp this).2 (c,x) (List.contains_iff_mem.mp hx))
theorem ZU (G:KF C.K) {x:Str} {args:List PV} {es:List Expr} {fpos pos:Pos} {r:PV} {l:List (Str × PV)} {cm:List (Str × Nat)} {H:List AObj} {ci:Option Nat} {cc:List (Str × Nat)} {H':List AObj} (hx:gNames.contains x = true) (hk:(kd fi).lookup x = some .globalImplicit) (hd:(x == ("__debug__" : Str)) = false)
    (h2:Evs C k fi σ es pos args ⟨l,cm,H,ci,cc⟩) (h3:CallJ C k (.ref (ga C.K x)) args H r H')
    (hst:∀ env,(starEach es env).any (·.1) = false:=by intro _; rfl)
    (he:∀ env,eval ((Expr.Name x fpos).Call es [] pos) env = (do let x <- eval (Expr.Name x fpos) env; callWith pos x [] (backTo pos (starEach es env)) (backToKw pos (keywordEach [] env))):=by intro _; rfl):Ev C k fi σ ((Expr.Name x fpos).Call es [] pos) r ⟨l,cm,H',ci,cc⟩:=
  Ziy (Ziw G hx hk hd) (kp_g G hx) h2 h3 hst he
theorem Zan (G:KF C.K) {x:Str} {v:Value} {args:List PV} {es:List Expr} {fpos pos:Pos} {r:PV} {l:List (Str × PV)} {cm:List (Str × Nat)} {H:List AObj} {ci:Option Nat} {cc:List (Str × Nat)} {H':List AObj} (hb:bootBuiltins x = some v) (hx:bNames.contains x = true) (hn:(x == ("__name__" : Str)) = false) (hk:(kd fi).lookup x = some .globalImplicit) (hd:(x == ("__debug__" : Str)) = false)
    (hc:callable C.K v) (h2:Evs C k fi σ es pos args ⟨l,cm,H,ci,cc⟩) (h3:CallJ C k v args H r H')
    (hst:∀ env,(starEach es env).any (·.1) = false:=by intro _; rfl)
    (he:∀ env,eval ((Expr.Name x fpos).Call es [] pos) env = (do let x <- eval (Expr.Name x fpos) env; callWith pos x [] (backTo pos (starEach es env)) (backToKw pos (keywordEach [] env))):=by intro _; rfl):Ev C k fi σ ((Expr.Name x fpos).Call es [] pos) r ⟨l,cm,H',ci,cc⟩:=
  Ziy (Zo0 G hb hx (beq_eq_false_iff_ne.mp hn) hk hd) hc h2 h3 hst he
theorem ZjY {x n:Str} {px pos:Pos} {a r:PV} (h:Ev C k fi σ (.Name x px) a σ₁) (h2:GaJ C k fi σ₁ a n r σ'):Ev C k fi σ ((Expr.Name x px).Attribute n pos) r σ':=Ziz h h2
theorem ZjZ {e:Expr} {x n:Str} {px pos:Pos} {a r:PV} (h:Ev C k fi σ (.Attribute e x px) a σ₁) (h2:GaJ C k fi σ₁ a n r σ'):Ev C k fi σ ((Expr.Attribute e x px).Attribute n pos) r σ':=Ziz h h2
theorem Zae {x n:Str} {px apos pos:Pos} {fv:Value} {a r:PV} {first args:List PV} {es:List Expr} {l:List (Str × PV)} {cm:List (Str × Nat)} {H:List AObj} {ci:Option Nat} {cc:List (Str × Nat)} {H':List AObj} (h1:Ev C k fi σ (Expr.Name x px) a σ₁) (hm:MeJ C k fi σ₁ a n fv first) (hc:callable C.K fv) (h2:Evs C k fi σ₁ es pos args ⟨l,cm,H,ci,cc⟩) (h3:CallJ C k fv (first ++ args) H r H')
    (hn:decide (es.length < 30) = true:=by kernel_rfl) (hl:(apos.endLine == pos.line) = true:=by kernel_rfl) (hst:∀ env,(starEach es env).any (·.1) = false:=by intro _; rfl):Ev C k fi σ (((Expr.Name x px).Attribute n apos).Call es [] pos) r ⟨l,cm,H',ci,cc⟩:=Zir h1 hm hc h2 h3 (fun env=>do return (<- importBound (Expr.Name x px) env).getD true) hst (fun env=>ZeO rfl (hst env) hn hl)
theorem ZaN {e:Expr} {x n:Str} {px apos pos:Pos} {fv:Value} {a r:PV} {first args:List PV} {es:List Expr} {l:List (Str × PV)} {cm:List (Str × Nat)} {H:List AObj} {ci:Option Nat} {cc:List (Str × Nat)} {H':List AObj} (h1:Ev C k fi σ (Expr.Attribute e x px) a σ₁) (hm:MeJ C k fi σ₁ a n fv first) (hc:callable C.K fv) (h2:Evs C k fi σ₁ es pos args ⟨l,cm,H,ci,cc⟩) (h3:CallJ C k fv (first ++ args) H r H')
    (hn:decide (es.length < 30) = true:=by kernel_rfl) (hl:(apos.endLine == pos.line) = true:=by kernel_rfl) (hst:∀ env,(starEach es env).any (·.1) = false:=by intro _; rfl):Ev C k fi σ (((Expr.Attribute e x px).Attribute n apos).Call es [] pos) r ⟨l,cm,H',ci,cc⟩:=Zir h1 hm hc h2 h3 (fun env=>do return (<- importBound (Expr.Attribute e x px) env).getD true) hst (fun env=>ZeO rfl (hst env) hn hl)
theorem Z4 {x:String}:callable C.K (.type x):=.inr rfl
theorem Zah {x:String} (h:keeperOf (.builtin x) = pure .machine:=by rfl):callable C.K (.builtin x):=.inr h
end
section
variable {C:Cx} {k:Nat} {fi:Fi} {σ:St} {l:List (Str × PV)} {cm:List (Str × Nat)} {H:List AObj} {ci:Option Nat} {cc:List (Str × Nat)}
theorem ZfU {i:Nat} {xs:List PV} {j:Int} {x:PV} (L:H[i]? = some (.list xs)) (h0:0 <= j) (hf:j < 2 ^ 63) (hn:j < xs.length):SiJ C k fi ⟨l,cm,H,ci,cc⟩ (.ref i) (.int j) x ⟨l,cm,H.set i (.list (xs.set j.toNat x)),ci,cc⟩:=Zl3 (σ:=⟨l,cm,H,ci,cc⟩) L h0 hf hn
theorem ZjJ {i:Nat} {es:List (Int × PV)} {kk:Int} {x:PV} (D:H[i]? = some (.dict es)) (hz:es.length <= 100000):SiJ C k fi ⟨l,cm,H,ci,cc⟩ (.ref i) (.int kk) x ⟨l,cm,H.set i (.dict (putI kk x es)),ci,cc⟩:=Zl4 (σ:=⟨l,cm,H,ci,cc⟩) D hz
theorem ZoL (G:KF C.K) {i d:Nat} {c:Str} {es es':List (Str × PV)} {n:Str} {p:PV} (hi:H[i]? = some (.inst (ga C.K c) d)) (hd:H[d]? = some (.attrs es)) (hx:cNames.contains (c,nsOf c) = true) (hn:(nsOf c).contains n = true) (he:stl n p es = es') (hz:es'.length <= 1000) :
    SaJ C k fi ⟨l,cm,H,ci,cc⟩ (.ref i) n p ⟨l,cm,H.set d (.attrs es'),ci,cc⟩:=Sa_i (σ:=⟨l,cm,H,ci,cc⟩) G hi hd hx hn he hz
theorem Zev {pos:Pos}:Ev C k fi ⟨l,cm,H,ci,cc⟩ (.Dict [] [] pos) (.ref H.length) ⟨l,cm,H ++ [.dict []],ci,cc⟩:=ZjU (σ:=⟨l,cm,H,ci,cc⟩)
theorem ZdK {es:List Expr} {pos:Pos} {vs:List PV} (h:Evs C k fi σ es pos vs ⟨l,cm,H,ci,cc⟩) (hz:vs.length <= 1000000):Ev C k fi σ (.List es pos) (.ref H.length) ⟨l,cm,H ++ [.list vs],ci,cc⟩:=ZmG (σ':=⟨l,cm,H,ci,cc⟩) h hz
theorem Zj9 {p x:PV} {n:Int} (L:LstAt ⟨l,cm,H,ci,cc⟩ p [x]) (h0:0 <= n) (hz:n <= 100000):BinJ C k fi ⟨l,cm,H,ci,cc⟩ .Mult p (.int n) (.ref H.length) ⟨l,cm,H ++ [.list (List.replicate n.toNat x)],ci,cc⟩:=ZmW (σ:=⟨l,cm,H,ci,cc⟩) L h0 hz
theorem Zka {x:Str} {px:Pos} {p:PV} {loc:List (Str × PV)} (hl:stl x p l = loc) (hcm:fi.cmp = none) (hk:(kd fi).lookup x = some .local):AsJ C k fi ⟨l,cm,H,ci,cc⟩ (.Name x px) p ⟨loc,cm,H,ci,cc⟩:=by
  subst hl; exact Zm0 (σ:=⟨l,cm,H,ci,cc⟩) hcm hk
theorem Zke {x:Str} {px:Pos} {p:PV} {i:Nat} {u:Option PV} (hc:lkN x cm = some i) (hv:H[i]? = some (.cell u)) (hcm:fi.cmp = none) (hk:(kd fi).lookup x = some .cell):AsJ C k fi ⟨l,cm,H,ci,cc⟩ (.Name x px) p ⟨l,cm,H.set i (.cell (some p)),ci,cc⟩:=Zm1 (σ:=⟨l,cm,H,ci,cc⟩) hc hv hcm hk
end
section
variable {C:Cx} {k:Nat}
noncomputable def ZN (d:FD) (names:List Str):Bool:=ZaW d names && d.params.defaults.isEmpty
theorem Fnc.none {K:Frag} {a:Addr} {d:FD} (F:Fnc K a d) (h:d.params.defaults.isEmpty = true):(ZL K a).defaults = .none:=by
  have:=F.dflt
  rw [h] at this
  exact Zd5 this
noncomputable def Bd (d:FD) (vs:List Value) (bs:List (Str × Value)):Prop:=∀ (kd:Value) (doc pm:Value) (an:Option Addr) (cd ct:Value),bindArgs (fnOf d.name d.qual d.params d.body d.scope .none kd doc pm an cd ct) ⟨vs,[]⟩ = pure bs
theorem Zcv {K:Frag} {a:Addr} {d:FD} {vs:List Value} {bs:List (Str × Value)} (F:Fnc K a d) (h:d.params.defaults.isEmpty = true) (b:Bd d vs bs):bindArgs (ZfH K a d) ⟨vs,[]⟩ = pure bs:=by
  unfold ZfH; rw [F.none h]; exact b ..
theorem fn1G {a:Addr} {d:FD} {x0:Str} {p0 r:PV} {H H':List AObj} {σ':St} {o:Out} (F:Fnc C.K a d) (hp:ZN d [x0] = true) (hb:∀ v0:Value,Bd d [v0] [(x0,v0)])
    (hr:Rets o r) (hmain:LimH H.length H -> PV.lims H.length [p0] = true -> Ex C k ⟨d.qual,d.scope,a,(ZL C.K a).code,none⟩ ⟨[(x0,p0)],[],H,none,[]⟩ d.body o σ' /\ LimH H'.length H' /\ PV.lim H'.length r = true)
    (hH:σ'.H.take H'.length = H') (hle:H.length <= H'.length):CodeJ C (k + 1) (.ref a) [p0] H r H':=by
  have hp0:=Bool.and_eq_true_iff.mp hp
  exact Zcr F (names:=[x0]) hp0.1 (fun s vs _ h=>by refine e1a0 (len1 h) fun v0 hqa=>?_; subst hqa; exact BindsTo.of_eq (Zcv F hp0.2 (hb v0))) rfl hmain hr hH hle
theorem fn1R {a:Addr} {d:FD} {x0:Str} {p0 r:PV} {H:List AObj} {loc':List (Str × PV)} {cm':List (Str × Nat)} {ci':Option Nat} {cc':List (Str × Nat)} (F:Fnc C.K a d) (hp:ZN d [x0] = true) (hb:∀ v0:Value,Bd d [v0] [(x0,v0)])
    (hmain:LimH H.length H -> PV.lims H.length [p0] = true -> Ex C k ⟨d.qual,d.scope,a,(ZL C.K a).code,none⟩ ⟨[(x0,p0)],[],H,none,[]⟩ d.body (.ret r) ⟨loc',cm',H,ci',cc'⟩) (hl:PV.lims H.length [p0] = true -> PV.lim H.length r = true):CodeJ C (k + 1) (.ref a) [p0] H r H:=
  fn1G F hp hb (.ret _) (fun lH lA=>⟨hmain lH lA,lH,hl lA⟩) List.take_length (Nat.le_refl _)
theorem fn1N {a:Addr} {d:FD} {x0:Str} {p0:PV} {H H':List AObj} {loc':List (Str × PV)} {cm':List (Str × Nat)} {ci':Option Nat} {cc':List (Str × Nat)} (F:Fnc C.K a d) (hp:ZN d [x0] = true) (hb:∀ v0:Value,Bd d [v0] [(x0,v0)])
    (hmain:LimH H.length H -> PV.lims H.length [p0] = true -> Ex C k ⟨d.qual,d.scope,a,(ZL C.K a).code,none⟩ ⟨[(x0,p0)],[],H,none,[]⟩ d.body .next ⟨loc',cm',H',ci',cc'⟩) (hl:LimH H.length H -> PV.lims H.length [p0] = true -> LimH H'.length H') (hn:H'.length = H.length):CodeJ C (k + 1) (.ref a) [p0] H .none H':=
  fn1G F hp hb .next (fun lH lA=>⟨hmain lH lA,hl lH lA,rfl⟩) List.take_length (Nat.le_of_eq hn.symm)
theorem fn2G {a:Addr} {d:FD} {x0 x1:Str} {p0 p1 r:PV} {H H':List AObj} {σ':St} {o:Out} (F:Fnc C.K a d) (hp:ZN d [x0,x1] = true) (hb:∀ v0 v1:Value,Bd d [v0,v1] [(x0,v0),(x1,v1)])
    (hr:Rets o r) (hmain:LimH H.length H -> PV.lims H.length [p0,p1] = true -> Ex C k ⟨d.qual,d.scope,a,(ZL C.K a).code,none⟩ ⟨[(x1,p1),(x0,p0)],[],H,none,[]⟩ d.body o σ' /\ LimH H'.length H' /\ PV.lim H'.length r = true)
    (hH:σ'.H.take H'.length = H') (hle:H.length <= H'.length):CodeJ C (k + 1) (.ref a) [p0,p1] H r H':=by
  have hp0:=Bool.and_eq_true_iff.mp hp
  exact Zcr F (names:=[x0,x1]) hp0.1 (fun s vs _ h=>by refine e2a0 (len2 h) fun v0 v1 hqa=>?_; subst hqa; exact BindsTo.of_eq (Zcv F hp0.2 (hb v0 v1))) rfl hmain hr hH hle
theorem fn2R {a:Addr} {d:FD} {x0 x1:Str} {p0 p1 r:PV} {H:List AObj} {loc':List (Str × PV)} {cm':List (Str × Nat)} {ci':Option Nat} {cc':List (Str × Nat)} (F:Fnc C.K a d) (hp:ZN d [x0,x1] = true) (hb:∀ v0 v1:Value,Bd d [v0,v1] [(x0,v0),(x1,v1)])
    (hmain:LimH H.length H -> PV.lims H.length [p0,p1] = true -> Ex C k ⟨d.qual,d.scope,a,(ZL C.K a).code,none⟩ ⟨[(x1,p1),(x0,p0)],[],H,none,[]⟩ d.body (.ret r) ⟨loc',cm',H,ci',cc'⟩) (hl:PV.lims H.length [p0,p1] = true -> PV.lim H.length r = true):CodeJ C (k + 1) (.ref a) [p0,p1] H r H:=
  fn2G F hp hb (.ret _) (fun lH lA=>⟨hmain lH lA,lH,hl lA⟩) List.take_length (Nat.le_refl _)
theorem fn2N {a:Addr} {d:FD} {x0 x1:Str} {p0 p1:PV} {H H':List AObj} {loc':List (Str × PV)} {cm':List (Str × Nat)} {ci':Option Nat} {cc':List (Str × Nat)} (F:Fnc C.K a d) (hp:ZN d [x0,x1] = true) (hb:∀ v0 v1:Value,Bd d [v0,v1] [(x0,v0),(x1,v1)])
    (hmain:LimH H.length H -> PV.lims H.length [p0,p1] = true -> Ex C k ⟨d.qual,d.scope,a,(ZL C.K a).code,none⟩ ⟨[(x1,p1),(x0,p0)],[],H,none,[]⟩ d.body .next ⟨loc',cm',H',ci',cc'⟩) (hl:LimH H.length H -> PV.lims H.length [p0,p1] = true -> LimH H'.length H') (hn:H'.length = H.length):CodeJ C (k + 1) (.ref a) [p0,p1] H .none H':=
  fn2G F hp hb .next (fun lH lA=>⟨hmain lH lA,hl lH lA,rfl⟩) List.take_length (Nat.le_of_eq hn.symm)
theorem fn3G {a:Addr} {d:FD} {x0 x1 x2:Str} {p0 p1 p2 r:PV} {H H':List AObj} {σ':St} {o:Out} (F:Fnc C.K a d) (hp:ZN d [x0,x1,x2] = true) (hb:∀ v0 v1 v2:Value,Bd d [v0,v1,v2] [(x0,v0),(x1,v1),(x2,v2)])
    (hr:Rets o r) (hmain:LimH H.length H -> PV.lims H.length [p0,p1,p2] = true -> Ex C k ⟨d.qual,d.scope,a,(ZL C.K a).code,none⟩ ⟨[(x2,p2),(x1,p1),(x0,p0)],[],H,none,[]⟩ d.body o σ' /\ LimH H'.length H' /\ PV.lim H'.length r = true)
    (hH:σ'.H.take H'.length = H') (hle:H.length <= H'.length):CodeJ C (k + 1) (.ref a) [p0,p1,p2] H r H':=by
  have hp0:=Bool.and_eq_true_iff.mp hp
  exact Zcr F (names:=[x0,x1,x2]) hp0.1 (fun s vs _ h=>by refine e3a0 (len3 h) fun v0 v1 v2 hqa=>?_; subst hqa; exact BindsTo.of_eq (Zcv F hp0.2 (hb v0 v1 v2))) rfl hmain hr hH hle
theorem fn3R {a:Addr} {d:FD} {x0 x1 x2:Str} {p0 p1 p2 r:PV} {H:List AObj} {loc':List (Str × PV)} {cm':List (Str × Nat)} {ci':Option Nat} {cc':List (Str × Nat)} (F:Fnc C.K a d) (hp:ZN d [x0,x1,x2] = true) (hb:∀ v0 v1 v2:Value,Bd d [v0,v1,v2] [(x0,v0),(x1,v1),(x2,v2)])
    (hmain:LimH H.length H -> PV.lims H.length [p0,p1,p2] = true -> Ex C k ⟨d.qual,d.scope,a,(ZL C.K a).code,none⟩ ⟨[(x2,p2),(x1,p1),(x0,p0)],[],H,none,[]⟩ d.body (.ret r) ⟨loc',cm',H,ci',cc'⟩) (hl:PV.lims H.length [p0,p1,p2] = true -> PV.lim H.length r = true):CodeJ C (k + 1) (.ref a) [p0,p1,p2] H r H:=
  fn3G F hp hb (.ret _) (fun lH lA=>⟨hmain lH lA,lH,hl lA⟩) List.take_length (Nat.le_refl _)
theorem fn3N {a:Addr} {d:FD} {x0 x1 x2:Str} {p0 p1 p2:PV} {H H':List AObj} {loc':List (Str × PV)} {cm':List (Str × Nat)} {ci':Option Nat} {cc':List (Str × Nat)} (F:Fnc C.K a d) (hp:ZN d [x0,x1,x2] = true) (hb:∀ v0 v1 v2:Value,Bd d [v0,v1,v2] [(x0,v0),(x1,v1),(x2,v2)])
    (hmain:LimH H.length H -> PV.lims H.length [p0,p1,p2] = true -> Ex C k ⟨d.qual,d.scope,a,(ZL C.K a).code,none⟩ ⟨[(x2,p2),(x1,p1),(x0,p0)],[],H,none,[]⟩ d.body .next ⟨loc',cm',H',ci',cc'⟩) (hl:LimH H.length H -> PV.lims H.length [p0,p1,p2] = true -> LimH H'.length H') (hn:H'.length = H.length):CodeJ C (k + 1) (.ref a) [p0,p1,p2] H .none H':=
  fn3G F hp hb .next (fun lH lA=>⟨hmain lH lA,hl lH lA,rfl⟩) List.take_length (Nat.le_of_eq hn.symm)
theorem fn4G {a:Addr} {d:FD} {x0 x1 x2 x3:Str} {p0 p1 p2 p3 r:PV} {H H':List AObj} {σ':St} {o:Out} (F:Fnc C.K a d) (hp:ZN d [x0,x1,x2,x3] = true) (hb:∀ v0 v1 v2 v3:Value,Bd d [v0,v1,v2,v3] [(x0,v0),(x1,v1),(x2,v2),(x3,v3)])
    (hr:Rets o r) (hmain:LimH H.length H -> PV.lims H.length [p0,p1,p2,p3] = true -> Ex C k ⟨d.qual,d.scope,a,(ZL C.K a).code,none⟩ ⟨[(x3,p3),(x2,p2),(x1,p1),(x0,p0)],[],H,none,[]⟩ d.body o σ' /\ LimH H'.length H' /\ PV.lim H'.length r = true)
    (hH:σ'.H.take H'.length = H') (hle:H.length <= H'.length):CodeJ C (k + 1) (.ref a) [p0,p1,p2,p3] H r H':=by
  have hp0:=Bool.and_eq_true_iff.mp hp
  exact Zcr F (names:=[x0,x1,x2,x3]) hp0.1 (fun s vs _ h=>by refine e4a0 (len4 h) fun v0 v1 v2 v3 hqa=>?_; subst hqa; exact BindsTo.of_eq (Zcv F hp0.2 (hb v0 v1 v2 v3))) rfl hmain hr hH hle
theorem fn4R {a:Addr} {d:FD} {x0 x1 x2 x3:Str} {p0 p1 p2 p3 r:PV} {H:List AObj} {loc':List (Str × PV)} {cm':List (Str × Nat)} {ci':Option Nat} {cc':List (Str × Nat)} (F:Fnc C.K a d) (hp:ZN d [x0,x1,x2,x3] = true) (hb:∀ v0 v1 v2 v3:Value,Bd d [v0,v1,v2,v3] [(x0,v0),(x1,v1),(x2,v2),(x3,v3)])
    (hmain:LimH H.length H -> PV.lims H.length [p0,p1,p2,p3] = true -> Ex C k ⟨d.qual,d.scope,a,(ZL C.K a).code,none⟩ ⟨[(x3,p3),(x2,p2),(x1,p1),(x0,p0)],[],H,none,[]⟩ d.body (.ret r) ⟨loc',cm',H,ci',cc'⟩) (hl:PV.lims H.length [p0,p1,p2,p3] = true -> PV.lim H.length r = true):CodeJ C (k + 1) (.ref a) [p0,p1,p2,p3] H r H:=
  fn4G F hp hb (.ret _) (fun lH lA=>⟨hmain lH lA,lH,hl lA⟩) List.take_length (Nat.le_refl _)
theorem fn4N {a:Addr} {d:FD} {x0 x1 x2 x3:Str} {p0 p1 p2 p3:PV} {H H':List AObj} {loc':List (Str × PV)} {cm':List (Str × Nat)} {ci':Option Nat} {cc':List (Str × Nat)} (F:Fnc C.K a d) (hp:ZN d [x0,x1,x2,x3] = true) (hb:∀ v0 v1 v2 v3:Value,Bd d [v0,v1,v2,v3] [(x0,v0),(x1,v1),(x2,v2),(x3,v3)])
    (hmain:LimH H.length H -> PV.lims H.length [p0,p1,p2,p3] = true -> Ex C k ⟨d.qual,d.scope,a,(ZL C.K a).code,none⟩ ⟨[(x3,p3),(x2,p2),(x1,p1),(x0,p0)],[],H,none,[]⟩ d.body .next ⟨loc',cm',H',ci',cc'⟩) (hl:LimH H.length H -> PV.lims H.length [p0,p1,p2,p3] = true -> LimH H'.length H') (hn:H'.length = H.length):CodeJ C (k + 1) (.ref a) [p0,p1,p2,p3] H .none H':=
  fn4G F hp hb .next (fun lH lA=>⟨hmain lH lA,hl lH lA,rfl⟩) List.take_length (Nat.le_of_eq hn.symm)
theorem fn5G {a:Addr} {d:FD} {x0 x1 x2 x3 x4:Str} {p0 p1 p2 p3 p4 r:PV} {H H':List AObj} {σ':St} {o:Out} (F:Fnc C.K a d) (hp:ZN d [x0,x1,x2,x3,x4] = true) (hb:∀ v0 v1 v2 v3 v4:Value,Bd d [v0,v1,v2,v3,v4] [(x0,v0),(x1,v1),(x2,v2),(x3,v3),(x4,v4)])
    (hr:Rets o r) (hmain:LimH H.length H -> PV.lims H.length [p0,p1,p2,p3,p4] = true -> Ex C k ⟨d.qual,d.scope,a,(ZL C.K a).code,none⟩ ⟨[(x4,p4),(x3,p3),(x2,p2),(x1,p1),(x0,p0)],[],H,none,[]⟩ d.body o σ' /\ LimH H'.length H' /\ PV.lim H'.length r = true)
    (hH:σ'.H.take H'.length = H') (hle:H.length <= H'.length):CodeJ C (k + 1) (.ref a) [p0,p1,p2,p3,p4] H r H':=by
  have hp0:=Bool.and_eq_true_iff.mp hp
  exact Zcr F (names:=[x0,x1,x2,x3,x4]) hp0.1 (fun s vs _ h=>by refine e5a0 (len5 h) fun v0 v1 v2 v3 v4 hqa=>?_; subst hqa; exact BindsTo.of_eq (Zcv F hp0.2 (hb v0 v1 v2 v3 v4))) rfl hmain hr hH hle
theorem fn5N {a:Addr} {d:FD} {x0 x1 x2 x3 x4:Str} {p0 p1 p2 p3 p4:PV} {H H':List AObj} {loc':List (Str × PV)} {cm':List (Str × Nat)} {ci':Option Nat} {cc':List (Str × Nat)} (F:Fnc C.K a d) (hp:ZN d [x0,x1,x2,x3,x4] = true) (hb:∀ v0 v1 v2 v3 v4:Value,Bd d [v0,v1,v2,v3,v4] [(x0,v0),(x1,v1),(x2,v2),(x3,v3),(x4,v4)])
    (hmain:LimH H.length H -> PV.lims H.length [p0,p1,p2,p3,p4] = true -> Ex C k ⟨d.qual,d.scope,a,(ZL C.K a).code,none⟩ ⟨[(x4,p4),(x3,p3),(x2,p2),(x1,p1),(x0,p0)],[],H,none,[]⟩ d.body .next ⟨loc',cm',H',ci',cc'⟩) (hl:LimH H.length H -> PV.lims H.length [p0,p1,p2,p3,p4] = true -> LimH H'.length H') (hn:H'.length = H.length):CodeJ C (k + 1) (.ref a) [p0,p1,p2,p3,p4] H .none H':=
  fn5G F hp hb .next (fun lH lA=>⟨hmain lH lA,hl lH lA,rfl⟩) List.take_length (Nat.le_of_eq hn.symm)
end
section
variable {C:Cx} {k:Nat} {fi:Fi} {σ σ₁ σ₂ σ₃ σ':St}
theorem ZjX {op:BoolOp} {e:Expr} {pos:Pos} {v:PV} (h:Ev C k fi σ e v σ'):Ev C k fi σ (.BoolOp op [e] pos) v σ':=fun fd W s Q E ok R bk=>BoolOp_one (h fd W s Q E ok R bk)
theorem ZiA {x y:Expr} {r:List Expr} {pos:Pos} (h:Ev C k fi σ x (.bool false) σ₁):Ev C k fi σ (.BoolOp .And (x :: y :: r) pos) (.bool false) σ₁:=by
  intro fd W s Q E ok R bk
  refine BoolOp_and (h fd W s _ E ok R fun W1 v1 g1 t1 l1 R1 V1=>ZbH fd W1 _ v1 _ E ok R1 V1 fun W2 v2 g2 t2 l2 R2 V2=>?_)
  subst V2
  simp only [Bool.false_eq_true,if_false]
  exact bk W2 _ g2 t2 (l1.trans l2) R2 (VRel.mono l2 V1)
theorem ZmK {x y:Expr} {r:List Expr} {pos:Pos} {v:PV} (h:Ev C k fi σ x (.bool true) σ₁) (h2:Ev C k fi σ₁ (.BoolOp .And (y :: r) pos) v σ'):Ev C k fi σ (.BoolOp .And (x :: y :: r) pos) v σ':=by
  intro fd W s Q E ok R bk
  refine BoolOp_and (h fd W s _ E ok R fun W1 v1 g1 t1 l1 R1 V1=>ZbH fd W1 _ v1 _ E ok R1 V1 fun W2 v2 g2 t2 l2 R2 V2=>?_)
  subst V2
  simp only [if_true]
  exact h2 fd W2 _ Q E ok R2 fun W3 v3 g3 t3 l3 R3 V3=>bk W3 _ g3 t3 (l1.trans (l2.trans l3)) R3 V3
theorem Zoh {x y:Expr} {r:List Expr} {pos:Pos} {c d:Bool} (h:Ev C k fi σ x (.bool c) σ) (h2:c = true -> Ev C k fi σ (.BoolOp .And (y :: r) pos) (.bool d) σ):Ev C k fi σ (.BoolOp .And (x :: y :: r) pos) (.bool (c && d)) σ:=by
  cases c with
  | false=>exact ZiA h
  | true=>exact ZmK h (h2 rfl)
theorem ZcN {t:Expr} {x y:List Stmt} {pos:Pos} {o:Out} {c:Bool} (h:Ts C k fi σ t c σ₁) (h1:c = true -> Ex C k fi σ₁ x o σ') (h2:c = false -> Ex C k fi σ₁ y o σ'):Ex1 C k fi σ (.If t x y pos) o σ':=by
  cases c with
  | true=>exact Zet h (h1 rfl)
  | false=>exact Za2 h (h2 rfl)
theorem ZkT {t:Expr} {x r:List Stmt} {pos:Pos} {o:Out} {c:Bool} (h:Ts C k fi σ t c σ₁) (h1:c = true -> Ex C k fi σ₁ x o σ') (hn:o ≠ .next) (h2:c = false -> Ex C k fi σ₁ r o σ'):Ex C k fi σ (.If t x [] pos :: r) o σ':=by
  cases c with
  | true=>exact Zy (Zet h (h1 rfl)) hn
  | false=>exact Za (Za2 h Ze) (h2 rfl)
theorem Zof {ss:List Stmt} {o:Out} {n:Nat} {H':List AObj} (h:Ex C k fi σ ss o σ₁) (hn:σ.H.length <= n) (hH:σ₁.H.take n = H') (hl:H'.length = n) (lH:LimH n H') (lL:LimL n σ₁.loc) (lo:∀ v,o = .ret v -> PV.lim n v = true)
    (hcm:σ₁.cm = σ.cm) (hci:σ₁.ci = σ.ci) (hcc:σ₁.cc = σ.cc):Ex C k fi σ ss o { σ₁ with H:=H' }:=by
  intro fd W s Q E ok R bk
  refine h fd W s Q E ok R fun W1 v1 g1 t1 l1 R1 V1=>?_
  have idx:∀ {i:Nat} {c:Addr},W.φ[i]? = some c -> i < n:=fun {i c} e=>by
    have:=(List.getElem?_eq_some_iff.mp e).1; rw [R.len] at this; lia
  have R2:=RelF.cut R1 (n:=n) (H':=H') (loc':=σ₁.loc) (cm':=σ₁.cm) (ci':=σ₁.ci) (cc':=σ₁.cc) hH hl lH.get (fun x v e=>⟨e,lL x v e⟩)
    (fun x i e=>⟨e,by rw [hcm] at e; refine e1a1 (R.cel x i e) fun c _ z=>?_; exact idx z⟩) (fun i e=>⟨e,by rw [hci] at e; exact idx (R.cen i e)⟩) (fun x i e=>⟨e,by rw [hcc] at e; refine e1a1 (R.cec x i e) fun c _ z=>?_; exact idx z⟩)
  refine bk (W1.cut n) v1 g1 t1 (Wd.le_cut l1 (by rw [R.len]; exact hn)) R2 ?_
  cases V1 with
  | next=>exact .next
  | cont=>exact .cont
  | brk=>exact .brk
  | ret r=>exact .ret (VRel.cut r (lo _ rfl))
theorem Zog {e:Expr} {j:Nat} {xs:List PV} (h:Ev C k fi σ e (.ref j) σ₁) (hj:σ₁.H[j]? = some (.list xs)):Ev C k fi σ e (.lst xs) { σ₁ with H:=σ₁.H.set j .dead }:=by
  intro fd W s Q E ok R bk
  refine h fd W s Q E ok R fun W1 v1 g1 t1 l1 R1 V1=>?_
  apply VRel.ref_e V1; intro _ e
  refine e1a3 (R1.obj _ _ _ e hj) fun o' h1 _ _ h2=>?_
  refine e2a1 (ORel.list_i h2) fun _ _ hqa r=>?_; subst hqa
  refine e0a1 (R1.freeze e h1) fun l2 R2=>?_
  exact bk _ _ g1 t1 (l1.trans l2) R2 (.lst (Wd.frz_at _ _ _) (VRels.mono l2 r))
theorem Zoe {x:Str} {j:Nat} {xs:List PV} {ss:List Stmt} {o:Out} (hx:lk x σ.loc = some (.ref j)) (hj:σ.H[j]? = some (.list xs)) (h:Ex C k fi { σ with loc:=stl x (.lst xs) σ.loc,H:=σ.H.set j .dead } ss o σ'):Ex C k fi σ ss o σ':=by
  intro fd W s Q E ok R bk
  refine e1a1 R.fr fun m F lc=>?_
  refine e1a1 (lc x _ hx) fun v' hv1 hv2=>?_
  revert hv1; apply VRel.ref_e hv2; intro a e hv1
  refine e1a3 (R.obj _ _ _ e hj) fun o' h1 _ _ h2=>?_
  refine e2a1 (ORel.list_i h2) fun _ _ hqa r=>?_; subst hqa
  refine e0a1 (R.freeze e h1) fun l2 R2=>?_
  have R3:Rl fd _ { σ with loc:=stl x (.lst xs) σ.loc,H:=σ.H.set j .dead } s.heap:=R2.carry (fd':=fd) (σ:={ σ with H:=σ.H.set j .dead }) F (fun y u q=>by
    rw [Zkq] at q
    by_cases hy:y = x
    . rw [if_pos hy] at q; obtain rfl:=Option.some.inj q
      subst hy
      exact ⟨_,hv1,.lst (Wd.frz_at _ _ _) (VRels.mono l2 r)⟩
    . rw [if_neg hy] at q
      refine e1a1 (lc y u q) fun v'' q1 q2=>?_
      exact ⟨v'',q1,VRel.mono l2 q2⟩) R2.news R2.cel R2.cen R2.cec
  exact h fd _ s Q E ok R3 fun W3 v3 g3 t3 l3 R4 V4=>bk W3 v3 g3 t3 (l2.trans l3) R4 V4
noncomputable def Zku (e:Expr):Bool:=by
  cases e with
  | Starred _ _=>exact true
  | _=>exact false
theorem ZiP {env:Env} {x y:Str} {px py tp vp:Pos} {k n:Nat} {a b:Expr} (hk:env.kindOf x = some .local) (hk':env.kindOf y = some .local) (hb:env.blockKind = .function) (hl:py.line = px.line) (hxy:(y == x) = false)
    (hs:([a,b].any Zku) = false) (hf:[a,b].all (foldedForSure 8) = false) (hc:[a,b].all (constantsAlone 8) = false) :
    swappedStores [.Tuple [.Name x px,.Name y py] k tp] (.Tuple [a,b] n vp) env = pure (some [x,y]):=by
  have he:[x,y].eraseDups = [x,y]:=by
    simp only [List.eraseDups_cons,List.eraseDups_nil,List.filter_cons,List.filter_nil,hxy,Bool.not_false,if_true]
  have key:∀ (L:List Str) (b1 b2 b4 b5:Bool) (U V:Sem (Option (List Str))),L = [x,y] -> b1 = false -> b2 = false -> b4 = false -> b5 = false -> (if b1 = true then V else if b2 = true then V else if (L.length != 2 || L.eraseDups.length != L.length) = true then V else if b4 = true then V else if b5 = true then U else pure (some L)) = pure (some [x,y]):=by
    rintro _ _ _ _ _ U V rfl rfl rfl rfl rfl
    rw [he]; rfl
  delta swappedStores
  dsimp only [List.length_cons,List.length_nil,List.head?_cons,Option.map_some,Option.getD_some]
  refine key _ _ _ _ _ _ _ ?_ ?_ ((congrArg (List.any [a,b]) (funext fun e=>by cases e <;> rfl)).trans hs) hf hc
  . have e1:(env.kindOf x == some NameKind.local && px.line == px.line) = true:=by rw [hk,beq_self_eq_true]; exact beq_self_eq_true _
    have e2:(env.kindOf y == some NameKind.local && py.line == px.line) = true:=by rw [hk',hl,beq_self_eq_true]; exact beq_self_eq_true _
    refine (List.filterMap_cons_some (b:=x) ?_).trans (congrArg (x :: ·) ((List.filterMap_cons_some (b:=y) ?_).trans (congrArg (y :: ·) List.filterMap_nil)))
    . exact if_pos e1
    . exact if_pos e2
  . rw [hb]; rfl
theorem Zmw {x y:Str} {px py tp pos vp:Pos} {kk n:Nat} {a b:Expr} {p q:PV} {loc loc':List (Str × PV)} (h:Ev C (k + 1) fi σ (.Tuple [a,b] n vp) (.tup [p,q]) σ₁) (hcm:fi.cmp = none) (hk:(kd fi).lookup x = some .local) (hk':(kd fi).lookup y = some .local)
    (hl:py.line = px.line) (hxy:(y == x) = false) (hs:([a,b].any Zku) = false) (hf:[a,b].all (foldedForSure 8) = false) (hc:[a,b].all (constantsAlone 8) = false)
    (e1:stl y q σ₁.loc = loc) (e2:stl x p loc = loc') (hw:∀ env,swapsWithSole [.Tuple [.Name x px,.Name y py] kk tp] (.Tuple [a,b] n vp) pos.line env = pure false:=by intro _; rfl) :
    Ex1 C (k + 1) fi σ (.Assign [.Tuple [.Name x px,.Name y py] kk tp] (.Tuple [a,b] n vp) pos) .next ⟨loc',σ₁.cm,σ₁.H,σ₁.ci,σ₁.cc⟩:=by
  subst e1 e2
  intro fd W s Q E ok R bk
  have hbk:(fd.ev fi).blockKind = .function:=by simp [Env.blockKind,ZaS ok]
  refine Assign_Tuple_swapped (names:=[x,y]) (h fd W s _ E ok R fun W1 v1 g1 t1 l1 R1 V1=>?_) (hw _) (ZiP (kindOf_ev.trans hk) (kindOf_ev.trans hk') hbk hl hxy hs hf hc)
  refine e2a2 (Zcf R1 V1) fun t vs hqa h1 h2=>?_; subst hqa
  refine e1a1 R1.fr fun m F lc=>?_
  cases h2 with
  | @cons _ v1 _ _ a1 r=>
    cases r with
    | @cons _ v2 _ _ a2 r=>
      cases r
      show wpAny _ _ (unpackItems (.ref t) ([v1,v2].toArray:Array Value).size none) _ _ _
      refine unpackItems_tuple (Zny ok) h1 fun h' he=>?_
      have keep:∀ b o,g1.get? b = some o -> h'.get? b = some o:=fun b o e=>he b o (Nat.ne_of_lt (Heap.lt_size e)) e
      have R2:Rl fd W1 σ₁ h':=R1.carry (fd':=fd) (F.keeps keep) lc (fun p hp=>⟨keep _ _ (R1.news p hp).1,(R1.news p hp).2⟩) R1.cel R1.cen R1.cec
      refine assignInOrder_cons (bindName_ (ZaU (s:={ s with heap:=h',toks:=t1 }) ok R2 a2 hcm hk' fun W2 _ g2 t2 l2 R3 _=>?_))
      refine assignInOrder_cons (bindName_ (ZaU (s:={ s with heap:=g2,toks:=t2 }) (σ:={ σ₁ with loc:=stl y q σ₁.loc }) ok R3 (VRel.mono l2 a1) hcm hk fun W3 _ g3 t3 l3 R4 _=>?_))
      exact assignInOrder_nil (bk W3 _ g3 t3 (l1.trans (l2.trans l3)) R4 .next)
end
section
variable {C:Cx} {k:Nat}
theorem Zf4 {xs ys:List PV} {H:List AObj}:CallJ C k (.type "zip") [.lst xs,.lst ys] H (.ref H.length) (H ++ [.zO (H.length + 1),.zT,.zi xs,.zi ys]):=by
  intro fi loc cm ci cc fd W s vs Q E ok R V bk
  apply VRels.cons_e V; intro _ _ V1 V
  apply VRels.cons_e V; intro _ _ V2 V
  apply VRels.nil_e V
  apply VRel.lst_e V1; intro vs1 l1 n1 z1 r1
  apply VRel.lst_e V2; intro vs2 l2 n2 z2 r2
  have hl1:=Zv (R.frz _ z1).1
  have hl2:=Zv (R.frz _ z2).1
  refine call_zip_2 hl1 hl2 fun h' hz hTI hTO hi1 hi2 hsz hk=>?_
  refine e1a1 R.fr fun m F lc=>?_
  have R0:Rl fd W ⟨loc,cm,H,ci,cc⟩ h':=R.carry (fd':=fd) (F.keeps hk) lc (fun p hp=>⟨hk _ _ (R.news p hp).1,(R.news p hp).2⟩) R.cel R.cen R.cec
  have hb:∀ a:Nat,s.heap.objs.size <= a -> fd.b.get? a = none:=fun a ha=>by
    cases q:fd.b.get? a with
    | none=>rfl
    | some x=>exact absurd (Heap.lt_size (F.keep _ _ q)) (Nat.not_lt.mpr ha)
  have hL:∀ a:Nat,s.heap.objs.size <= a -> a ≠ fd.L:=fun a ha e=>by have h1:fd.L < s.heap.objs.size:=F.ns.lt; rw [<- e] at h1; exact Nat.lt_irrefl _ (Nat.lt_of_lt_of_le h1 ha)
  have hA:∀ a:Nat,s.heap.objs.size <= a -> a ∉ W.adr:=fun a ha q=>Nat.lt_irrefl _ (Nat.lt_of_lt_of_le (R.adr_lt q) ha)
  have R1:=R0.ice hTI (hL _ (by lia)) (hb _ (by lia)) (fun i e=>absurd (List.mem_append_left _ (List.mem_of_getElem? e)) (hA _ (by lia)))
  have hZ:∀ c:Nat,c ≠ s.heap.objs.size + 2 → c ∉ W.adr → c ∉ (W.frz (s.heap.objs.size + 2) { cls:=.type "tuple", data:=.seq #[.ref s.heap.objs.size,.ref (s.heap.objs.size + 1)] }).adr:=fun c h1 h2 q=>by
    rcases List.mem_append.mp q with q | q
    . exact h2 (List.mem_append_left _ q)
    . have q:c ∈ (s.heap.objs.size + 2) :: W.Z.map (·.1):=q
      rcases List.mem_cons.mp q with q | q
      . exact h1 q
      . exact h2 (List.mem_append_right _ q)
  refine e1a2 hi1 fun o1 g1 c1 d1=>?_
  refine e1a2 hi2 fun o2 g2 c2 d2=>?_
  have lz:=Wd.le_frz W (s.heap.objs.size + 2) { cls:=.type "tuple", data:=.seq #[.ref s.heap.objs.size,.ref (s.heap.objs.size + 1)] }
  have R2:=R1.owns [s.heap.objs.size + 4,s.heap.objs.size + 3,s.heap.objs.size,s.heap.objs.size + 1] [.raw { cls:=.type "zip", dict:=none,data:=.fields #[.none,.bool false,.bool false,.ref (s.heap.objs.size + 2),.ref (s.heap.objs.size + 3)],slots:=#[] },.zT,.zi xs,.zi ys] rfl (by simp) (fun a ha=>by
    have:(a:Nat) = s.heap.objs.size + 4 ∨ a = s.heap.objs.size + 3 ∨ a = s.heap.objs.size ∨ a = s.heap.objs.size + 1:=by simpa using ha
    have h1:s.heap.objs.size <= a /\ a ≠ s.heap.objs.size + 2:=by rcases this with rfl | rfl | rfl | rfl <;> exact ⟨by simp,by simp⟩
    exact ⟨hL a h1.1,hb a h1.1,hZ a h1.2 (hA a h1.1)⟩) (fun i a o e1 e2=>by
    match i with
    | 0=>simp at e1 e2; subst e1 e2; exact ⟨_,hz,.raw _,rfl⟩
    | 1=>simp at e1 e2; subst e1 e2; exact ⟨_,hTO,.zT,rfl⟩
    | 2=>simp at e1 e2; subst e1 e2; exact ⟨_,g1,.zi (lz.Z _ z1) (VRels.mono lz r1) c1 d1,rfl⟩
    | 3=>simp at e1 e2; subst e1 e2; exact ⟨_,g2,.zi (lz.Z _ z2) (VRels.mono lz r2) c2 d2,rfl⟩
    | (i + 4)=>simp at e1)
  have hlen:W.φ.length = H.length:=R.len
  have ix:∀ j a,[s.heap.objs.size + 4,s.heap.objs.size + 3,s.heap.objs.size,s.heap.objs.size + 1][j]? = some a -> (W.φ ++ [s.heap.objs.size + 4,s.heap.objs.size + 3,s.heap.objs.size,s.heap.objs.size + 1])[H.length + j]? = some a:=fun j a e=>by
    rw [List.getElem?_append_right (by lia),<- hlen,Nat.add_sub_cancel_left]; exact e
  have R3:=R2.holdRaw (i:=H.length) (a:=s.heap.objs.size + 4) (o:=.raw _) (ix 0 _ rfl) (by simp; rfl) (by intro e; cases e) hz (.zO (H.length + 1)) (.zO (ix 1 _ rfl) (ix 2 _ rfl) (ix 3 _ rfl) (.head _)) (by intro e; exact ft e)
  have eH:(H ++ [AObj.raw { cls:=.type "zip", dict:=none,data:=.fields #[.none,.bool false,.bool false,.ref (s.heap.objs.size + 2),.ref (s.heap.objs.size + 3)],slots:=#[] },.zT,.zi xs,.zi ys]).set H.length (.zO (H.length + 1)) = H ++ [.zO (H.length + 1),.zT,.zi xs,.zi ys]:=by simp
  refine bk ⟨W.φ ++ [s.heap.objs.size + 4,s.heap.objs.size + 3,s.heap.objs.size,s.heap.objs.size + 1],(s.heap.objs.size + 2,{ cls:=.type "tuple", data:=.seq #[.ref s.heap.objs.size,.ref (s.heap.objs.size + 1)] }) :: W.Z⟩ _ h' s.toks ?_ (?_:Rl fd _ _ h') (.ref (ix 0 _ rfl))
  . refine ⟨fun i a e=>?_,fun p hp=>lz.Z p hp⟩
    show (W.φ ++ _)[i]? = some a
    rw [List.getElem?_append_left (List.getElem?_eq_some_iff.mp e).1]; exact e
  . rw [<- eH]; exact R3
end
section
open PySem PySem.W PyProof.Rows PySem.Calls PySem.SeqAt PyProof.V
mutual
inductive Dat (σ:St):PV -> PyData -> Prop
  | int (i:Int):Dat σ (.int i) (.int i)
  | str (x:Str):Dat σ (.str x) (.str x)
  | lst {p:PV} {xs:List PV} {ds:List PyData}:LstAt σ p xs -> Dats σ xs ds -> Dat σ p (.list ds)
  | tup {xs:List PV} {ds:List PyData}:Dats σ xs ds -> Dat σ (.tup xs) (.tuple ds)
inductive Dats (σ:St):List PV -> List PyData -> Prop
  | nil:Dats σ [] []
  | cons {p:PV} {d:PyData} {ps:List PV} {ds:List PyData}:Dat σ p d -> Dats σ ps ds -> Dats σ (p :: ps) (d :: ds)
end
section
variable {fd:Fd} {W:Wd} {σ:St} {h:Heap} (R:RelF fd W σ h)
include R
theorem ZhI:(∀ {p:PV} {d:PyData},Dat σ p d -> ∀ {v:Value},VRel W p v -> ∃ as,Reads h v d as) /\ (∀ {p:List PV} {d:List PyData},Dats σ p d -> ∀ {v:List Value},VRels W p v -> ∃ as,ReadsAll h v d as):=by
  have c1:∀ (i:Int) {v:Value},VRel W (.int i) v -> ∃ as,Reads h v (.int i) as:=fun i v V=>by apply VRel.int_e V; intro t; exact ⟨_,.int i t⟩
  have c2:∀ (x:Str) {v:Value},VRel W (.str x) v -> ∃ as,Reads h v (.str x) as:=fun i v V=>by apply VRel.str_e V; intro t; exact ⟨_,.str i t⟩
  have c3:∀ {p:PV} {xs:List PV} {ds:List PyData},LstAt σ p xs -> Dats σ xs ds -> (∀ {v:List Value},VRels W xs v -> ∃ as,ReadsAll h v ds as) -> ∀ {v:Value},VRel W p v -> ∃ as,Reads h v (.list ds) as:=fun L _ ih v V=>by
    refine e3a2 (L.at R V) fun a vs n hqa h1 h2=>?_; subst hqa
    refine e1a0 (ih h2) fun as h3=>?_
    exact ⟨_,.list (n:=n) (vs:=vs.toArray) h1 rfl rfl h3⟩
  have c4:∀ {xs:List PV} {ds:List PyData},Dats σ xs ds -> (∀ {v:List Value},VRels W xs v -> ∃ as,ReadsAll h v ds as) -> ∀ {v:Value},VRel W (.tup xs) v -> ∃ as,Reads h v (.tuple ds) as:=fun _ ih v V=>by
    obtain ⟨a,vs,rfl,⟨o,h1,h2,n,h3⟩,h4⟩:=Zcf R V
    refine e1a0 (ih h4) fun as h5=>?_
    exact ⟨_,.tuple h1 h2 h3 h5⟩
  have c5:∀ {v:List Value},VRels W [] v -> ∃ as,ReadsAll h v [] as:=fun {v} V=>by apply VRels.nil_e V; exact ⟨_,.nil⟩
  have c6:∀ {p:PV} {d:PyData} {ps:List PV} {ds:List PyData},Dat σ p d -> Dats σ ps ds -> (∀ {v:Value},VRel W p v -> ∃ as,Reads h v d as) -> (∀ {v:List Value},VRels W ps v -> ∃ as,ReadsAll h v ds as) -> ∀ {v:List Value},VRels W (p :: ps) v -> ∃ as,ReadsAll h v (d :: ds) as:=fun _ _ i1 i2 v V=>by
    apply VRels.cons_e V; intro _ _ V Vs
    refine e1a0 (i1 V) fun as h1=>?_
    refine e1a0 (i2 Vs) fun bs h2=>?_
    exact ⟨_,.cons h1 h2⟩
  exact ⟨fun D=>Dat.rec (motive_1:=fun p d _=>∀ {v:Value},VRel W p v -> ∃ as,Reads h v d as) (motive_2:=fun p d _=>∀ {v:List Value},VRels W p v -> ∃ as,ReadsAll h v d as) c1 c2 c3 c4 c5 c6 D,
    fun D=>Dats.rec (motive_1:=fun p d _=>∀ {v:Value},VRel W p v -> ∃ as,Reads h v d as) (motive_2:=fun p d _=>∀ {v:List Value},VRels W p v -> ∃ as,ReadsAll h v d as) c1 c2 c3 c4 c5 c6 D⟩
theorem Dat.reads {p:PV} {d:PyData} {v:Value} (D:Dat σ p d) (V:VRel W p v):∃ as,Reads h v d as:=(ZhI R).1 D V
end
noncomputable def ZaM (xs:List Int):List PyData:=xs.map .int
noncomputable def Zax (p:Int × Int):PyData:=.tuple [.int p.1,.int p.2]
noncomputable def ZO (p:Int × Int):PV:=.tup [.int p.1,.int p.2]
theorem Za0 {σ:St}:∀ xs:List Int,Dats σ (xs.map .int) (ZaM xs)
  | []=>.nil
  | x :: xs=>.cons (.int x) (Za0 xs)
theorem Zec {σ:St}:∀ xs:List Str,Dats σ (xs.map .str) (xs.map .str)
  | []=>.nil
  | x :: xs=>.cons (.str x) (Zec xs)
theorem ZbF {σ:St}:∀ xs:List (Int × Int),Dats σ (xs.map ZO) (xs.map Zax)
  | []=>.nil
  | x :: xs=>.cons (.tup (.cons (.int _) (.cons (.int _) .nil))) (ZbF xs)
theorem Zdk:∀ xs:List Int,PyData.canLayAll0 (ZaM xs) = true
  | []=>rfl
  | x :: xs=>by
    show (PyData.canLay0 (.int x) && PyData.canLayAll0 (ZaM xs)) = true
    rw [Zdk xs]; rfl
theorem Zdx:∀ xs:List Int,PyData.depthAll (ZaM xs) = 0
  | []=>rfl
  | x :: xs=>by
    show max (PyData.depth (.int x)) (PyData.depthAll (ZaM xs)) = 0
    rw [Zdx xs]; rfl
theorem Zcg (xs:List Int):shaped (.list (ZaM xs)) = true:=by
  unfold shaped
  have h1:PyData.canLay0 (.list (ZaM xs)) = PyData.canLayAll0 (ZaM xs):=by simp only [PyData.canLay0]
  have h2:PyData.depth (.list (ZaM xs)) = PyData.depthAll (ZaM xs) + 1:=by simp only [PyData.depth]
  rw [h1,h2,Zdk,Zdx]; rfl
theorem ZbM (xs:List Int):shaped (.tuple (ZaM xs)) = true:=by
  unfold shaped
  have h1:PyData.canLay0 (.tuple (ZaM xs)) = PyData.canLayAll0 (ZaM xs):=by simp only [PyData.canLay0]
  have h2:PyData.depth (.tuple (ZaM xs)) = PyData.depthAll (ZaM xs) + 1:=by simp only [PyData.depth]
  rw [h1,h2,Zdk,Zdx]; rfl
theorem ZdZ:∀ xs:List (Int × Int),PyData.canLayAll0 (xs.map Zax) = true
  | []=>rfl
  | x :: xs=>by
    show (PyData.canLay0 (Zax x) && PyData.canLayAll0 (xs.map Zax)) = true
    rw [ZdZ xs]; rfl
theorem Zeb:∀ xs:List (Int × Int),PyData.depthAll (xs.map Zax) <= 1
  | []=>by decide
  | x :: xs=>by
    show max (PyData.depth (Zax x)) (PyData.depthAll (xs.map Zax)) <= 1
    have h1:PyData.depth (Zax x) <= 1:=by simp [Zax,PyData.depth,PyData.depthAll]
    have:=Zeb xs
    lia
theorem ZbL (xs:List (Int × Int)):shaped (.list (xs.map Zax)) = true:=by
  unfold shaped
  have h1:PyData.canLay0 (.list (xs.map Zax)) = PyData.canLayAll0 (xs.map Zax):=by simp only [PyData.canLay0]
  have h2:PyData.depth (.list (xs.map Zax)) = PyData.depthAll (xs.map Zax) + 1:=by simp only [PyData.depth]
  rw [h1,h2,ZdZ]
  have:=Zeb xs
  have h3:decide (PyData.depthAll (xs.map Zax) + 1 <= 64) = true:=decide_eq_true (by lia)
  rw [h3]; rfl
theorem Zdv:∀ xs ys:List Int,PyData.eqvAll (ZaM xs) (ZaM ys) = (xs == ys)
  | [],[]=>rfl
  | [],_ :: _=>rfl
  | _ :: _,[]=>rfl
  | x :: xs,y :: ys=>by
    show (PyData.eqv (.int x) (.int y) && PyData.eqvAll (ZaM xs) (ZaM ys)) = _
    rw [Zdv xs ys]; rfl
theorem Zd9:∀ xs:List (Int × Int),PyData.eqvAll (xs.map Zax) (xs.map Zax) = true
  | []=>rfl
  | x :: xs=>by
    show (PyData.eqv (Zax x) (Zax x) && PyData.eqvAll (xs.map Zax) (xs.map Zax)) = _
    rw [Zd9 xs]
    simp [Zax,PyData.eqv,PyData.eqvAll]
section
variable {C:Cx} {k:Nat} {fi:Fi} {σ σ₁ σ₂ σ₃ σ':St}
theorem Zg3 {fd:Fd} (ok:OkF C k fi fd):(fd.A fi).units + 64 < cLine:=by
  have:=ok.un
  show fd.un + 64 < 9900
  lia
theorem Zfj {p q:PV} {d e:PyData} (D:Dat σ p d) (D':Dat σ q e) (hd:shaped d = true) (he:shaped e = true) {b:Bool} (hb:PyData.eqv d e = b):CmpJ C k fi σ .Eq p q b σ:=by
  subst hb
  intro fd W s va vb Q E ok R V U bk
  refine e1a0 (D.reads R V) fun as ra=>?_
  refine e1a0 (D'.reads R U) fun bs rb=>?_
  exact eq_dataH ra rb hd he (Zg3 ok) (bk W _ s.heap s.toks (.refl _) R rfl)
theorem ZmM {p q:PV} {d e:PyData} (D:Dat σ p d) (D':Dat σ q e) (hd:shaped d = true) (he:shaped e = true) {b:Bool} (hb:PyData.eqv d e = b):CmpJ C k fi σ .NotEq p q (!b) σ:=by
  subst hb
  intro fd W s va vb Q E ok R V U bk
  refine e1a0 (D.reads R V) fun as ra=>?_
  refine e1a0 (D'.reads R U) fun bs rb=>?_
  exact ne_dataH ra rb hd he (Zg3 ok) (bk W _ s.heap s.toks (.refl _) R rfl)
theorem Zf3 {p q:PV} {xs ys:List Int} (L:LstAt σ p (xs.map .int)) (M:LstAt σ q (ys.map .int)):CmpJ C k fi σ .Eq p q (xs == ys) σ:=
  Zfj (.lst L (Za0 xs)) (.lst M (Za0 ys)) (Zcg xs) (Zcg ys) (by simp only [PyData.eqv]; exact Zdv xs ys)
theorem Zj4 {xs ys:List Int}:CmpJ C k fi σ .Eq (.tup (xs.map .int)) (.tup (ys.map .int)) (xs == ys) σ:=
  Zfj (.tup (Za0 xs)) (.tup (Za0 ys)) (ZbM xs) (ZbM ys) (by simp only [PyData.eqv]; exact Zdv xs ys)
theorem Zj3 {p q:PV} {xs:List (Int × Int)} (L:LstAt σ p (xs.map ZO)) (M:LstAt σ q (xs.map ZO)):CmpJ C k fi σ .NotEq p q false σ:=
  ZmM (.lst L (ZbF xs)) (.lst M (ZbF xs)) (ZbL xs) (ZbL xs) (b:=true) (by simp only [PyData.eqv]; exact Zd9 xs)
theorem ZiE {p q:PV} {x:Str} {xs:List Str} (L:LstAt σ p ((x :: xs).map .str)) (M:LstAt σ q []) (hs:shaped (.list ((x :: xs).map .str)) = true):CmpJ C k fi σ .Eq p q false σ:=
  Zfj (.lst L (Zec (x :: xs))) (.lst M .nil) hs (by decide +kernel) (by simp only [PyData.eqv,List.map_cons,PyData.eqvAll])
end
section
variable {C:Cx} {k:Nat} {fi:Fi} {σ σ₁ σ₂ σ₃ σ':St}
theorem RelF.keeps {fd:Fd} {W:Wd} {σ:St} {h h':Heap} (R:RelF fd W σ h) (hk:∀ a o,h.get? a = some o -> h'.get? a = some o):RelF fd W σ h':=
  R.grow (fun _ F=>F.keeps hk) fun p hp=>⟨hk _ _ (R.news p hp).1,(R.news p hp).2⟩
theorem ZgG {keys:List (Option Expr)} {values:List Expr} {pos:Pos} {D:List (PyData × PyData)} (hD:litPairs keys values = some D) (hs:strKeyed D = true) (hn:(strKeysOf D).Nodup)
    (hall:keys.all (·.isSome) = true) (hl:keys.length = values.length) (h0:keys ≠ []) (hlen:keys.length <= 15):Ev C k fi σ (.Dict keys values pos) .any σ:=by
  intro fd W s Q E ok R bk
  exact Dict_lits_str hD hs hn hall hl h0 hlen fun a o h₁ tk _ _ _ hk=>bk W _ h₁ tk (.refl _) (R.keeps hk) (.any _)
noncomputable def sD (d:PyData):Option Str:=by
  cases d with
  | str y=>exact some y
  | _=>exact none
noncomputable def iD (d:PyData):Option Int:=by
  cases d with
  | int y=>exact some y
  | _=>exact none
noncomputable def Zea (x:Str):List (PyData × PyData) -> Option Int
  | []=>none
  | p :: r=>(sD p.1).bind fun y=>(iD p.2).bind fun n=>if x = y then some n else Zea x r
theorem ZhE {x:Str} {n:Int} {kvs:List (Str × Value)} {D:List (PyData × PyData)} (F:FlatPairs PyData.str kvs D) (e:Zea x D = some n):∃ t,valueAt kvs x = some (.int n t):=by
  induction F with
  | nil=>exact nse e
  | @cons a v d _ r fv fr ih=>
    cases d with
    | int m=>
      have e:(if x = a then some m else Zea x r) = some n:=e
      by_cases q:x = a
      . subst q
        rw [if_pos rfl] at e; obtain rfl:=Option.some.inj e
        refine e1a0 fv.int_inv fun t hqa=>?_; subst hqa
        exact ⟨t,by simp [valueAt]⟩
      . rw [if_neg q] at e
        refine e1a0 (ih e) fun t h=>?_
        exact ⟨t,by rw [<- h]; simp [valueAt,Ne.symm q]⟩
    | _=>exact nse e
theorem ZgF {keys:List (Option Expr)} {values:List Expr} {pos dpos:Pos} {D:List (PyData × PyData)} {sl:Expr} {x:Str} {n:Int} (hD:litPairs keys values = some D) (hs:strKeyed D = true) (hn:(strKeysOf D).Nodup)
    (hall:keys.all (·.isSome) = true) (hl:keys.length = values.length) (h0:keys ≠ []) (hlen:keys.length <= 15) (h:Ev C k fi σ sl (.str x) σ) (hx:Zea x D = some n) (hp:ZJ sl:=by intro _ _; rfl) :
    Ev C k fi σ ((Expr.Dict keys values dpos).Subscript sl pos) (.int n) σ:=by
  intro fd W s Q E ok R bk
  refine Subscript_ (Dict_lits_str hD hs hn hall hl h0 hlen fun a o h₁ tk ha ho hT hk=>?_)
  refine e1a1 hT fun kvs hd hf=>?_
  have R1:=R.keeps hk
  have hnew:∀ i:Nat,W.φ[i]? = some a -> False:=fun i e=>Nat.lt_irrefl _ (Nat.lt_of_lt_of_le (R.lt (List.mem_of_getElem? e)) ha)
  refine e1a1 R.fr fun m F _=>?_
  have R2:=R1.ice (a:=a) (o':=o) ho (fun e=>by have:=F.ns.lt; rw [<- e] at this; exact Nat.lt_irrefl _ (Nat.lt_of_lt_of_le this ha)) (by
    cases q:fd.b.get? a with
    | none=>rfl
    | some z=>exact absurd (Heap.lt_size (F.keep _ _ q)) (Nat.not_lt.mpr ha)) (fun i e=>(hnew i e).elim)
  refine h fd _ { s with heap:=h₁,toks:=tk } _ E ok R2 fun W2 v2 h₂ tk₂ l2 R3 V2=>?_
  apply VRel.str_e V2; intro _
  have ho2:=(R3.frz _ (l2.Z _ (Wd.frz_at W a o))).1
  have hd2:h₂.DictOf (strKind C.prog C.w) a kvs:=Heap.dictOf_iff.mpr ⟨o,ho2,hd⟩
  refine e1a0 (ZhE hf hx) fun t hv=>?_
  exact tail_any hd2.typeIs slot_dict_getitem.lookup (wpAny_getItem_of (strKind_is _ _ _ _) hd2.mapOf hv (bk W2 _ h₂ _ ((Wd.le_frz W a o).trans l2) R3 (.int n t))) (hp _ _)
theorem Zn6 {c f:Addr} {n:Str} (hc:Ze2 C.K c n f = true):MeJ C k fi σ (.con (.ref c)) n (.ref f) []:=by
  unfold Ze2 at hc
  refine e0a1 (Bool.and_eq_true_iff.mp hc) fun h1 h2=>?_
  refine e1a1 ((Option.any_eq_true _ _).mp h2) fun mc hm h2=>?_
  refine e0a1 (Bool.and_eq_true_iff.mp h2) fun h4 h3=>?_
  refine e1a1 (Option.bind_eq_some_iff.mp (beq_iff_eq.mp h3)) fun v h5 h6=>?_
  refine e1a1 (Option.bind_eq_some_iff.mp h5) fun o hg h7=>?_
  have h8:=Zoz h7
  have h9:=ZeK h6
  subst h8 h9
  intro fd W s va pl Q E ok R V bk
  refine e1a1 R.fr fun m F lc=>?_
  apply VRel.con_e V
  exact method_of_cls F ok.X (beq_iff_eq.mp h1) (cls_val F ok.X hm h4 hg rfl (bk W _ s.heap _ (.refl _) R ⟨rfl,.nil⟩))
end
end
noncomputable def LSub (l l':List (Str × PV)):Prop:=∀ x v,lk x l = some v -> lk x l' = some v
theorem LSub.nil {l':List (Str × PV)}:LSub [] l':=fun _ _ e=>by exact nse e
theorem LSub.cons {x:Str} {v:PV} {r l':List (Str × PV)} (h:lk x l' = some v) (hr:LSub r l'):LSub ((x,v) :: r) l':=fun y u e=>by
  rw [lk_c] at e
  by_cases q:y = x
  . rw [if_pos q] at e; obtain rfl:=Option.some.inj e; rw [q]; exact h
  . rw [if_neg q] at e; exact hr y u e
theorem LSub.refl {l:List (Str × PV)}:LSub l l:=fun _ _ e=>e
theorem Zbl {H0:List AObj} {os:List Obj} {ys:List PV} {es:List (Str × PV)}:(H0 ++ os.map .raw ++ [.list ys,.ns es])[H0.length + os.length + 1]? = some (.ns es):=by
  rw [List.getElem?_append_right (by simp)]; simp
theorem ZfM {H0:List AObj} {os:List Obj} {ys:List PV} {es es':List (Str × PV)}:(H0 ++ os.map AObj.raw ++ [AObj.list ys,.ns es]).set (H0.length + os.length + 1) (.ns es') = H0 ++ os.map .raw ++ [.list ys,.ns es']:=by
  rw [List.set_append_right _ _ (by simp)]; simp
theorem Zb2 {α:Type} {f:Nat -> α} {n i:Nat} {q:α} (h:((List.range n).map f)[i]? = some q):i < n /\ q = f i:=by
  rw [List.getElem?_map] at h
  cases e:(List.range n)[i]? with
  | none=>rw [e] at h; exact nse h
  | some j=>
    rw [e] at h; obtain rfl:=Option.some.inj h
    have h1:=(List.getElem?_eq_some_iff.mp e).1
    have h2:=(List.getElem?_eq_some_iff.mp e).2
    simp at h1 h2
    exact ⟨h1,by rw [h2]⟩
section
variable {C:Cx} {k:Nat} {fi:Fi} {σ σ₁ σ₂ σ':St}
theorem Zeu {ss:List Stmt} {o:Out} {l l':List (Str × PV)} {cm:List (Str × Nat)} {H:List AObj} {ci:Option Nat} {cc:List (Str × Nat)} (h:Ex C k fi σ ss o ⟨l,cm,H,ci,cc⟩) (hl:LSub l' l):Ex C k fi σ ss o ⟨l',cm,H,ci,cc⟩:=by
  intro fd W s Q E ok R bk
  exact h fd W s Q E ok R fun W1 v1 g1 t1 l1 R1 V1=>bk W1 v1 g1 t1 l1 (R1.forget hl) V1
theorem Zfl {scope:Scope} {x:Str} {px:Pos} {p:PV} {H0:List AObj} {os:List Obj} {ys:List PV} {cc:List (Str × Nat)} (hk:(kd { fi with cmp:=some scope }).lookup x = some .local) :
    AsJ C k { fi with cmp:=some scope } (Zp σ₁ H0 os ys [] cc) (.Name x px) p (Zp σ₁ H0 os ys [(x,p)] cc):=by
  have:=Zkd (C:=C) (k:=k) (fi:={ fi with cmp:=some scope }) (σ:=Zp σ₁ H0 os ys [] cc) (x:=x) (px:=px) (p:=p) (i:=H0.length + os.length + 1) (es:=[]) (sc:=scope) rfl Zbl rfl hk
  have e:({ Zp σ₁ H0 os ys [] cc with H:=(Zp σ₁ H0 os ys [] cc).H.set (H0.length + os.length + 1) (.ns (stl x p [])) }:St) = Zp σ₁ H0 os ys [(x,p)] cc:=by
    show (⟨_,_,(H0 ++ os.map AObj.raw ++ [AObj.list ys,.ns []]).set _ _,_,_⟩:St) = _
    rw [ZfM]; rfl
  rw [e] at this; exact this
theorem Zkc {scope:Scope} {x y:Str} {px py tp:Pos} {n:Nat} {p q:PV} {H0:List AObj} {os:List Obj} {ys:List PV} {cc:List (Str × Nat)} (hxy:(y == x) = false) (hk:(kd { fi with cmp:=some scope }).lookup x = some .local) (hk':(kd { fi with cmp:=some scope }).lookup y = some .local) :
    AsJ C (k + 1) { fi with cmp:=some scope } (Zp σ₁ H0 os ys [] cc) (.Tuple [.Name x px,.Name y py] n tp) (.tup [p,q]) (Zp σ₁ H0 os ys [(x,p),(y,q)] cc):=by
  have:=Zkb (C:=C) (k:=k) (fi:={ fi with cmp:=some scope }) (σ:=Zp σ₁ H0 os ys [] cc) (x:=x) (y:=y) (px:=px) (py:=py) (tp:=tp) (n:=n) (p:=p) (q:=q) (i:=H0.length + os.length + 1) (es:=[]) (sc:=scope) rfl Zbl rfl hk hk'
  have e:({ Zp σ₁ H0 os ys [] cc with H:=(Zp σ₁ H0 os ys [] cc).H.set (H0.length + os.length + 1) (.ns (stl y q (stl x p []))) }:St) = Zp σ₁ H0 os ys [(x,p),(y,q)] cc:=by
    show (⟨_,_,(H0 ++ os.map AObj.raw ++ [AObj.list ys,.ns []]).set _ _,_,_⟩:St) = _
    have e1:stl y q (stl x p []) = [(x,p),(y,q)]:=by
      rw [Zm6,ZgX,if_neg (beq_eq_false_iff_ne.mp hxy),Zm6]
    rw [ZfM,e1]
  rw [e] at this; exact this
noncomputable def Zbd (sc:Scope):Bool:=sc.kind == .function && sc.names.all (fun y=>y.2 != .cell) && sc.names.all (fun y=>y.2 != .local || sc.names.lookup y.1 == some .local)
theorem Zbt {sc:Scope} (h:Zbd sc = true):(∀ y ∈ sc.names,y.2 ≠ .cell) /\ sc.kind = .function /\ (∀ y ∈ sc.names,y.2 = .local -> sc.names.lookup y.1 = some .local):=by
  unfold Zbd at h
  simp only [Bool.and_eq_true,beq_iff_eq] at h
  obtain ⟨⟨a,b⟩,c⟩:=h
  refine ⟨fun y hy=>bne_iff_ne.mp (List.all_eq_true.mp b y hy),a,fun y hy e=>?_⟩
  have:=List.all_eq_true.mp c y hy
  rw [e] at this
  simpa using this
noncomputable def ccOk (names:List (Str × NameKind)) (cm:List (Str × Nat)) (cc:List (Str × Nat)):Prop:=CcOk names cm cc /\ ∀ x ∈ names,x.2 = .free -> (lkN x.1 cm).isSome = true
noncomputable def ZlD (names:List (Str × NameKind)) (ns:List Str):Bool:=names.all fun x=>x.2 != .free || ns.contains x.1
noncomputable def ZhC (names:List (Str × NameKind)) (ns:List Str):Bool:=ns.all fun n=>names.any fun x=>x.1 == n && x.2 == .free
theorem Zju {names:List (Str × NameKind)} {cm:List (Str × Nat)} (h:ZlD names [] = true):ccOk names cm []:=⟨.nil,fun x hx e=>by
  have:=List.all_eq_true.mp h x hx
  rw [e] at this; exact ft this⟩
theorem Zdq {names:List (Str × NameKind)} {n:Str} (h:(names.any fun x=>x.1 == n && x.2 == .free) = true):(n,NameKind.free) ∈ names:=by
  refine e1a1 (List.any_eq_true.mp h) fun x hx e=>?_
  refine e0a1 (Bool.and_eq_true_iff.mp e) fun e1 e2=>?_
  have e1:x.1 = n:=beq_iff_eq.mp e1
  have e2:x.2 = .free:=beq_iff_eq.mp e2
  have:x = (n,NameKind.free):=Prod.ext e1 e2
  rw [<- this]; exact hx
theorem ZlK {names:List (Str × NameKind)} {cm:List (Str × Nat)} {n:Str} {i:Nat} (h:ZlD names [n] = true) (h':ZhC names [n] = true) (hi:lkN n cm = some i):ccOk names cm [(n,i)]:=by
  refine ⟨.cons (Zdq (List.all_eq_true.mp h' n (by simp))) hi .nil,fun x hx e=>?_⟩
  have:=List.all_eq_true.mp h x hx
  rw [e] at this
  have e2:x.1 = n:=by simpa using this
  rw [e2,hi]; rfl
theorem Zjt {names:List (Str × NameKind)} {cm:List (Str × Nat)} {n n':Str} {i i':Nat} (h:ZlD names [n,n'] = true) (h':ZhC names [n,n'] = true) (hi:lkN n cm = some i) (hi':lkN n' cm = some i'):ccOk names cm [(n,i),(n',i')]:=by
  refine ⟨.cons (Zdq (List.all_eq_true.mp h' n (by simp))) hi (.cons (Zdq (List.all_eq_true.mp h' n' (by simp))) hi' .nil),fun x hx e=>?_⟩
  have:=List.all_eq_true.mp h x hx
  rw [e] at this
  have e2:x.1 = n ∨ x.1 = n':=by simpa using this
  rcases e2 with e2 | e2
  . rw [e2,hi]; rfl
  . rw [e2,hi']; rfl
theorem ZiC {elt iter:Expr} {x:Str} {px pos:Pos} {scope:Scope} {p:PV} {items:List PV} {l l':List (Str × PV)} {cm cc:List (Str × Nat)} {H:List AObj} (f:Nat -> PV) (hcmp:fi.cmp = none) (hσ:σ.cm = cm) (hσH:σ.H.length <= H.length) (h:Ev C (k + 1) fi σ iter p ⟨l,cm,H,none,[]⟩) (S:ZbI H p H 1 items)
    (hc:ccOk scope.names cm cc) (hs:Zbd scope = true) (hk:(kd { fi with cmp:=some scope }).lookup x = some .local) (hz:items.length <= 100000) (hlo:∀ i,i < items.length -> PV.lim H.length (f i) = true) (hlH:LimH H.length H) (hlL:LimL H.length l') (hll:LSub l' l) (hcl0:∀ x i,lkN x cm = some i -> i < H.length)
    (turn:∀ i q,items[i]? = some q -> ∀ os:List Obj,os.length = 1 -> Ev C (k + 1) { fi with cmp:=some scope } ⟨l,cm,H ++ os.map .raw ++ [.list ((List.range i).map f),.ns [(x,q)]],some (H.length + os.length + 1),cc⟩ elt (f i) ⟨l,cm,H ++ os.map .raw ++ [.list ((List.range i).map f),.ns [(x,q)]],some (H.length + os.length + 1),cc⟩)
    (hfs:∀ env x,foldedSetIterable iter env x = pure x:=by intro _ _; rfl) :
    EvN C (k + 1) fi σ (.ListComp elt [⟨.Name x px,iter,[],0⟩] scope pos) ((List.range items.length).map f) ⟨l',cm,H,none,[]⟩:=by
  refine e0a2 (Zbt hs) fun h1 h2 h3=>?_
  refine Zf2 (σ₁:=⟨l,cm,H,none,[]⟩) (H0:=H) (cc:=cc) (loc':=l') (items:=items) (m:=1) (fun i=>(List.range (min i items.length)).map f) hcmp h S (.name _ _) (by rw [hσ]; exact hc.1) (by rw [hσ]; exact hc.2) h1 h2 h3 (by simp) (fun i=>by simp; lia) ?_ hlH hlL hll rfl rfl hcl0 hσH (fun i q hq os ho=>?_) hfs |> fun z=>by simpa using z
  . simp only [Nat.min_self]
    have:∀ n,n <= items.length -> PV.lims H.length ((List.range n).map f) = true:=fun n=>by
      intro hn
      have:∀ l:List Nat,(∀ i ∈ l,i < items.length) -> PV.lims H.length (l.map f) = true:=fun l=>by
        induction l with
        | nil=>intro _; rfl
        | cons a r ih=>intro hh; exact nd (hlo a (hh a (.head _))) (ih (fun i hi=>hh i (.tail _ hi)))
      exact this _ (fun i hi=>by have:=List.mem_range.mp hi; lia)
    exact this _ (Nat.le_refl _)
  . have hi:i < items.length:=(List.getElem?_eq_some_iff.mp hq).1
    have e1:min i items.length = i:=Nat.min_eq_left (Nat.le_of_lt hi)
    have e2:min (i + 1) items.length = i + 1:=Nat.min_eq_left hi
    simp only [e1,e2]
    refine ⟨[(x,q)],true,Zfl hk,.nil,fun _=>⟨f i,by simp [List.range_succ],turn i q hq os ho⟩,fun e=>by exact tf e⟩
theorem ZgH {nF:Nat} {elt iter:Expr} {x y:Str} {px py tp pos:Pos} {nt:Nat} {scope:Scope} {xs ys:List PV} {l l':List (Str × PV)} {cm cc:List (Str × Nat)} {H:List AObj} (f:Nat -> PV) (hcmp:fi.cmp = none) (hσ:σ.cm = cm) (hσH:nF <= H.length) (h:Ev C (k + 1) fi σ iter (.ref H.length) ⟨l,cm,H ++ [.zO (H.length + 1),.zT,.zi xs,.zi ys],none,[]⟩)
    (hc:ccOk scope.names cm cc) (hs:Zbd scope = true) (hxy:(y == x) = false) (hk:(kd { fi with cmp:=some scope }).lookup x = some .local) (hk':(kd { fi with cmp:=some scope }).lookup y = some .local) (hz:xs.length <= 100000) (hyl:ys.length = xs.length) (hlo:∀ i,i < xs.length -> PV.lim H.length (f i) = true) (hlH:LimH H.length H) (hlL:LimL H.length l') (hll:LSub l' l) (hcl0:∀ x i,lkN x cm = some i -> i < H.length)
    (turn:∀ i a b,xs[i]? = some a -> ys[i]? = some b -> ∀ os:List Obj,os.length = 4 -> Ev C (k + 1) { fi with cmp:=some scope } ⟨l,cm,H ++ os.map .raw ++ [.list ((List.range i).map f),.ns [(x,a),(y,b)]],some (H.length + os.length + 1),cc⟩ elt (f i) ⟨l,cm,H ++ os.map .raw ++ [.list ((List.range i).map f),.ns [(x,a),(y,b)]],some (H.length + os.length + 1),cc⟩)
    (hfs:∀ env x,foldedSetIterable iter env x = pure x:=by intro _ _; rfl) :
    EvNF nF C (k + 1) fi σ (.ListComp elt [⟨.Tuple [.Name x px,.Name y py] nt tp,iter,[],0⟩] scope pos) ((List.range xs.length).map f) ⟨l',cm,H,none,[]⟩:=by
  refine e0a2 (Zbt hs) fun h1 h2 h3=>?_
  have hlen:((xs.zip ys).map fun p=>PV.tup [p.1,p.2]).length = xs.length:=by simp [hyl]
  refine Zez (nF:=nF) (σ₁:=⟨l,cm,H ++ [.zO (H.length + 1),.zT,.zi xs,.zi ys],none,[]⟩) (H0:=H) (cc:=cc) (loc':=l') (items:=(xs.zip ys).map fun p=>PV.tup [p.1,p.2]) (m:=4) (fun i=>(List.range (min i xs.length)).map f) hcmp h (.zip rfl) (.pair _ _ _) (by rw [hσ]; exact hc.1) (by rw [hσ]; exact hc.2) h1 h2 h3 (by simp) (fun i=>by simp; lia) ?_ hlH hlL hll rfl rfl hcl0 hσH (fun i q hq os ho=>?_) hfs |> fun z=>by rw [hlen] at z; simpa using z
  . rw [hlen]
    simp only [Nat.min_self]
    have:∀ l:List Nat,(∀ i ∈ l,i < xs.length) -> PV.lims H.length (l.map f) = true:=fun l=>by
      induction l with
      | nil=>intro _; rfl
      | cons a r ih=>intro hh; exact nd (hlo a (hh a (.head _))) (ih (fun i hi=>hh i (.tail _ hi)))
    exact this _ (fun i hi=>List.mem_range.mp hi)
  . have hi:i < xs.length:=by have:=(List.getElem?_eq_some_iff.mp hq).1; lia
    have e1:min i xs.length = i:=Nat.min_eq_left (Nat.le_of_lt hi)
    have e2:min (i + 1) xs.length = i + 1:=Nat.min_eq_left hi
    simp only [e1,e2]
    have ha:xs[i]? = some xs[i]:=List.getElem?_eq_getElem hi
    have hb:ys[i]? = some (ys[i]'(hyl ▸ hi)):=List.getElem?_eq_getElem (hyl ▸ hi)
    have hq':q = .tup [xs[i],ys[i]]:=by
      have hz:(xs.zip ys)[i]? = some (xs[i],ys[i]):=List.getElem?_zip_eq_some.mpr ⟨ha,hb⟩
      rw [List.getElem?_map,hz] at hq
      simpa using hq.symm
    subst hq'
    exact ⟨[(x,xs[i]),(y,ys[i])],true,Zkc hxy hk hk',.nil,fun _=>⟨f i,by simp [List.range_succ],turn i _ _ ha hb os ho⟩,fun e=>by exact tf e⟩
theorem Zil {iter:Expr} {x:Str} {px pos:Pos} {body:List Stmt} {p:PV} {items:List PV} {l0:List (Str × PV)} {cm:List (Str × Nat)} {H:List AObj} (L:Nat -> List (Str × PV)) (h:Nat -> List AObj) (hcmp:fi.cmp = none) (hk:(kd fi).lookup x = some .local)
    (hit:Ev C (k + 1) fi σ iter p ⟨l0,cm,H,none,[]⟩) (S:ZbI H p H 1 items) (hnd:∀ i,p ≠ .ref i) (hL0:LSub (L 0) l0) (hH0:h 0 = H) (hlen:∀ i,(h i).length = H.length)
    (turn:∀ i q,items[i]? = some q -> ∀ os:List Obj,os.length = 1 -> ∃ l' o,(o = Out.next ∨ o = Out.cont) /\ Ex C (k + 1) fi ⟨stl x q (L i),cm,h i ++ os.map .raw,none,[]⟩ body o ⟨l',cm,h (i + 1) ++ os.map .raw,none,[]⟩ /\ LSub (L (i + 1)) l')
    (hlH:LimH H.length (h items.length)) (hlL:LimL H.length (L items.length))
    (hs:∀ env x,foldedSetIterable iter env x = pure x:=by intro _ _; rfl):Ex1 C (k + 1) fi σ (.For (.Name x px) iter body [] pos) .next ⟨L items.length,cm,h items.length,none,[]⟩:=by
  refine ZkU (σ₁:=⟨l0,cm,H,none,[]⟩) (H0:=H) (m:=1) (fun i=>⟨L i,cm,h i,none,[]⟩) hit S (.name _ _) (fun i e=>absurd e (hnd i)) hL0 rfl rfl rfl hH0 hlen (fun i q hq os ho=>?_) (fun i=>⟨rfl,rfl,rfl⟩) rfl hlH hlL hs
  refine e2a2 (turn i q hq os ho) fun l' o h1 h2 h3=>?_
  exact ⟨_,o,h1,Zka rfl hcmp hk,Zeu h2 h3⟩
theorem Zmz {iter:Expr} {x:Str} {px pos:Pos} {body:List Stmt} {p:PV} {items:List PV} {l0:List (Str × PV)} {cm:List (Str × Nat)} {H:List AObj} {c:Nat} (L:Nat -> List (Str × PV)) (h:Nat -> List AObj) (hcmp:fi.cmp = none) (hk:(kd fi).lookup x = some .cell) (hc:lkN x cm = some c) (hcl:c < H.length) (hcv:∀ i,∃ u,(h i)[c]? = some (.cell u))
    (hit:Ev C (k + 1) fi σ iter p ⟨l0,cm,H,none,[]⟩) (S:ZbI H p H 1 items) (hnd:∀ i,p ≠ .ref i) (hL0:LSub (L 0) l0) (hH0:h 0 = H) (hlen:∀ i,(h i).length = H.length)
    (turn:∀ i q,items[i]? = some q -> ∀ os:List Obj,os.length = 1 -> ∃ l' o,(o = Out.next ∨ o = Out.cont) /\ Ex C (k + 1) fi ⟨L i,cm,(h i).set c (.cell (some q)) ++ os.map .raw,none,[]⟩ body o ⟨l',cm,h (i + 1) ++ os.map .raw,none,[]⟩ /\ LSub (L (i + 1)) l')
    (hlH:LimH H.length (h items.length)) (hlL:LimL H.length (L items.length))
    (hs:∀ env x,foldedSetIterable iter env x = pure x:=by intro _ _; rfl):Ex1 C (k + 1) fi σ (.For (.Name x px) iter body [] pos) .next ⟨L items.length,cm,h items.length,none,[]⟩:=by
  refine ZkU (σ₁:=⟨l0,cm,H,none,[]⟩) (H0:=H) (m:=1) (fun i=>⟨L i,cm,h i,none,[]⟩) hit S (.name _ _) (fun i e=>absurd e (hnd i)) hL0 rfl rfl rfl hH0 hlen (fun i q hq os ho=>?_) (fun i=>⟨rfl,rfl,rfl⟩) rfl hlH hlL hs
  refine e2a2 (turn i q hq os ho) fun l' o h1 h2 h3=>?_
  refine e1a0 (hcv i) fun u hu=>?_
  have hg:(h i ++ os.map AObj.raw)[c]? = some (.cell u):=ZK hu
  have hset:(h i ++ os.map AObj.raw).set c (.cell (some q)) = (h i).set c (.cell (some q)) ++ os.map .raw:=by
    rw [List.set_append_left _ _ (by rw [hlen]; exact hcl)]
  refine ⟨_,o,h1,Zke hc hg hcmp hk,?_⟩
  rw [hset]
  exact Zeu h2 h3
end
theorem RelF.limsH {fd:Fd} {W:Wd} {σ:St} {h:Heap} (R:RelF fd W σ h):LimH σ.H.length σ.H:=LimH.of fun i o e=>by
  refine e2a4 (R.at e) fun a o' _ _ _ _ r=>?_
  have:=ORel.lim r
  rwa [R.len] at this
theorem RelF.limsL {fd:Fd} {W:Wd} {σ:St} {h:Heap} (R:RelF fd W σ h):LimL σ.H.length σ.loc:=fun x v e=>by
  refine e1a1 R.fr fun m _ lc=>?_
  refine e1a1 (lc x v e) fun v' _ r=>?_
  have:=VRel.lim r
  rwa [R.len] at this
noncomputable def CmL (n:Nat) (cm:List (Str × Nat)):Prop:=∀ x i,lkN x cm = some i -> i < n
theorem RelF.limsC {fd:Fd} {W:Wd} {σ:St} {h:Heap} (R:RelF fd W σ h):CmL σ.H.length σ.cm:=fun x i e=>by
  refine e1a1 (R.cel x i e) fun a _ h2=>?_
  have:=(List.getElem?_eq_some_iff.mp h2).1
  rwa [R.len] at this
theorem Zb3 {α:Type} {f:α -> PV} {n:Nat} (h:∀ a,PV.lim n (f a) = true) (xs:List α):PV.lims n (xs.map f) = true:=by
  induction xs with
  | nil=>rfl
  | cons x xs ih=>exact nd (h x) ih
theorem Zbp (n:Nat) (xs:List Int):PV.lims n (xs.map .int) = true:=Zb3 (fun _=>rfl) xs
section
variable {C:Cx} {k:Nat} {fi:Fi} {σ σ₁ σ₂ σ':St}
theorem Zf1 {e:Expr} {xs:List PV} (h:LimH σ.H.length σ.H -> LimL σ.H.length σ.loc -> CmL σ.H.length σ.cm -> EvN C k fi σ e xs σ'):EvN C k fi σ e xs σ':=fun fd W s Q E ok R bk=>h R.limsH R.limsL R.limsC fd W s Q E ok R bk
theorem Zmx {e:List Stmt} {v:Out} (h:LimH σ.H.length σ.H -> LimL σ.H.length σ.loc -> CmL σ.H.length σ.cm -> Ex C k fi σ e v σ'):Ex C k fi σ e v σ':=fun fd W s Q E ok R bk=>h R.limsH R.limsL R.limsC fd W s Q E ok R bk
theorem ZiB {elt iter:Expr} {x:Str} {px pos:Pos} {scope:Scope} {a b c:Int} {n:Nat} {l:List (Str × PV)} {cm cc:List (Str × Nat)} {H:List AObj} (f:Nat -> PV) (hcmp:fi.cmp = none) (h:Ev C (k + 1) fi ⟨l,cm,H,none,[]⟩ iter (.rng a b c) ⟨l,cm,H,none,[]⟩)
    (hsm:Builtin.Range.small a b c = true) (hr:Builtin.Range.rangeSize a b c = ((n:Nat):Int)) (hz:n <= 100000) (hlo:∀ i,i < n -> PV.lim H.length (f i) = true)
    (hc:ccOk scope.names cm cc) (hs:Zbd scope = true) (hk:(kd { fi with cmp:=some scope }).lookup x = some .local)
    (turn:∀ i,i < n -> ∀ os:List Obj,os.length = 1 -> Ev C (k + 1) { fi with cmp:=some scope } ⟨l,cm,H ++ os.map .raw ++ [.list ((List.range i).map f),.ns [(x,.int (a + (i:Int) * c))]],some (H.length + os.length + 1),cc⟩ elt (f i) ⟨l,cm,H ++ os.map .raw ++ [.list ((List.range i).map f),.ns [(x,.int (a + (i:Int) * c))]],some (H.length + os.length + 1),cc⟩)
    (hfs:∀ env x,foldedSetIterable iter env x = pure x:=by intro _ _; rfl) :
    EvN C (k + 1) fi ⟨l,cm,H,none,[]⟩ (.ListComp elt [⟨.Name x px,iter,[],0⟩] scope pos) ((List.range n).map f) ⟨l,cm,H,none,[]⟩:=
  Zf1 fun lH lL lC=>by
    have:=ZiC (C:=C) (k:=k) (elt:=elt) (iter:=iter) (x:=x) (px:=px) (pos:=pos) (scope:=scope) (fi:=fi) (σ:=⟨l,cm,H,none,[]⟩) (l:=l) (l':=l) (cm:=cm) (cc:=cc) (H:=H) (items:=(List.range n).map fun i:Nat=>PV.int (a + (i:Int) * c)) (p:=.rng a b c) f hcmp rfl (Nat.le_refl _) h (.rng hsm hr) hc hs hk (by simpa using hz) (fun i hi=>hlo i (by simpa using hi)) lH lL LSub.refl lC (fun i q hq os ho=>by
      refine e0a1 (Zb2 hq) fun hi hqa=>?_; subst hqa
      exact turn i hi os ho) hfs
    simpa using this
theorem Zew {elt iter:Expr} {x:Str} {px pos:Pos} {scope:Scope} {a b c:Int} {n:Nat} {l:List (Str × PV)} {cm cc:List (Str × Nat)} {H:List AObj} (f:Nat -> Int) (hcmp:fi.cmp = none) (h:Ev C (k + 1) fi ⟨l,cm,H,none,[]⟩ iter (.rng a b c) ⟨l,cm,H,none,[]⟩)
    (hsm:Builtin.Range.small a b c = true) (hr:Builtin.Range.rangeSize a b c = ((n:Nat):Int)) (hz:n <= 100000)
    (hc:ccOk scope.names cm cc) (hs:Zbd scope = true) (hk:(kd { fi with cmp:=some scope }).lookup x = some .local)
    (turn:∀ i,i < n -> ∀ os:List Obj,os.length = 1 -> Ev C (k + 1) { fi with cmp:=some scope } ⟨l,cm,H ++ os.map .raw ++ [.list ((List.range i).map fun i=>.int (f i)),.ns [(x,.int (a + (i:Int) * c))]],some (H.length + os.length + 1),cc⟩ elt (.int (f i)) ⟨l,cm,H ++ os.map .raw ++ [.list ((List.range i).map fun i=>.int (f i)),.ns [(x,.int (a + (i:Int) * c))]],some (H.length + os.length + 1),cc⟩)
    (hfs:∀ env x,foldedSetIterable iter env x = pure x:=by intro _ _; rfl) :
    Ev C (k + 1) fi ⟨l,cm,H,none,[]⟩ (.ListComp elt [⟨.Name x px,iter,[],0⟩] scope pos) (.lst (((List.range n).map f).map .int)) ⟨l,cm,H,none,[]⟩:=by
  rw [List.map_map]
  exact (ZiB (fun i=>.int (f i)) hcmp h hsm hr hz (fun _ _=>rfl) hc hs hk turn hfs).lst
theorem ZcD {nF:Nat} {elt iter:Expr} {x y:Str} {px py tp pos:Pos} {nt:Nat} {scope:Scope} {xs ys:List Int} {n:Nat} {l l':List (Str × PV)} {cm cc:List (Str × Nat)} {H:List AObj} (f:Int -> Int -> Int) (hcmp:fi.cmp = none) (hl:σ.cm = cm) (hσ:nF <= H.length) (h:Ev C (k + 1) fi σ iter (.ref H.length) ⟨l,cm,H ++ [.zO (H.length + 1),.zT,.zi (xs.map .int),.zi (ys.map .int)],none,[]⟩)
    (hn:xs.length = n) (hn':ys.length = n) (hz:n <= 100000) (lH:LimH H.length H) (lL:LimL H.length l') (hll:LSub l' l) (lC:CmL H.length cm)
    (hc:ccOk scope.names cm cc) (hs:Zbd scope = true) (hxy:(y == x) = false) (hk:(kd { fi with cmp:=some scope }).lookup x = some .local) (hk':(kd { fi with cmp:=some scope }).lookup y = some .local)
    (turn:∀ (i:Nat) (a b:Int),xs[i]? = some a -> ys[i]? = some b -> ∀ (os:List Obj) (zs:List PV),os.length = 4 -> Ev C (k + 1) { fi with cmp:=some scope } ⟨l,cm,H ++ os.map .raw ++ [.list zs,.ns [(x,.int a),(y,.int b)]],some (H.length + os.length + 1),cc⟩ elt (.int (f a b)) ⟨l,cm,H ++ os.map .raw ++ [.list zs,.ns [(x,.int a),(y,.int b)]],some (H.length + os.length + 1),cc⟩)
    (hfs:∀ env x,foldedSetIterable iter env x = pure x:=by intro _ _; rfl) :
    EvNF nF C (k + 1) fi σ (.ListComp elt [⟨.Tuple [.Name x px,.Name y py] nt tp,iter,[],0⟩] scope pos) ((List.zipWith f xs ys).map .int) ⟨l',cm,H,none,[]⟩:=by
  have e:(List.zipWith f xs ys).map PV.int = (List.range (xs.map PV.int).length).map fun i=>PV.int (f (xs.getD i 0) (ys.getD i 0)):=by
    apply List.ext_getElem
    . simp [hn,hn']
    . intro i h1 h2
      simp at h1 h2
      have g1:i < xs.length:=by lia
      have g2:i < ys.length:=by lia
      simp [List.getElem?_eq_getElem g1,List.getElem?_eq_getElem g2]
  rw [e]
  refine (ZgH (nF:=nF) (fun i=>PV.int (f (xs.getD i 0) (ys.getD i 0))) hcmp hl hσ h hc hs hxy hk hk' (by simp [hn]; exact hz) (by simp [hn,hn']) (fun _ _=>rfl) lH lL hll lC (fun i a b ha hb os ho=>?_) hfs)
  rw [List.getElem?_map] at ha hb
  cases e1:xs[i]? with
  | none=>rw [e1] at ha; exact nse ha
  | some a'=>
    cases e2:ys[i]? with
    | none=>rw [e2] at hb; exact nse hb
    | some b'=>
      rw [e1] at ha; rw [e2] at hb
      obtain rfl:=Option.some.inj ha; obtain rfl:=Option.some.inj hb
      have:f (xs.getD i 0) (ys.getD i 0) = f a' b':=by simp [List.getD_eq_getElem?_getD,e1,e2]
      rw [this]
      exact turn i a' b' e1 e2 os _ ho
theorem Zbz {elt iter:Expr} {x y:Str} {px py tp pos:Pos} {nt:Nat} {scope:Scope} {xs ys:List Int} {n:Nat} {l l':List (Str × PV)} {cm cc:List (Str × Nat)} {H:List AObj} (f:Int -> Int -> Int) (hcmp:fi.cmp = none) (hl:σ.cm = cm) (hσ:σ.H.length <= H.length) (h:Ev C (k + 1) fi σ iter (.ref H.length) ⟨l,cm,H ++ [.zO (H.length + 1),.zT,.zi (xs.map .int),.zi (ys.map .int)],none,[]⟩)
    (hn:xs.length = n) (hn':ys.length = n) (hz:n <= 100000) (lH:LimH H.length H) (lL:LimL H.length l') (hll:LSub l' l) (lC:CmL H.length cm)
    (hc:ccOk scope.names cm cc) (hs:Zbd scope = true) (hxy:(y == x) = false) (hk:(kd { fi with cmp:=some scope }).lookup x = some .local) (hk':(kd { fi with cmp:=some scope }).lookup y = some .local)
    (turn:∀ (i:Nat) (a b:Int),xs[i]? = some a -> ys[i]? = some b -> ∀ (os:List Obj) (zs:List PV),os.length = 4 -> Ev C (k + 1) { fi with cmp:=some scope } ⟨l,cm,H ++ os.map .raw ++ [.list zs,.ns [(x,.int a),(y,.int b)]],some (H.length + os.length + 1),cc⟩ elt (.int (f a b)) ⟨l,cm,H ++ os.map .raw ++ [.list zs,.ns [(x,.int a),(y,.int b)]],some (H.length + os.length + 1),cc⟩)
    (hfs:∀ env x,foldedSetIterable iter env x = pure x:=by intro _ _; rfl) :
    Ev C (k + 1) fi σ (.ListComp elt [⟨.Tuple [.Name x px,.Name y py] nt tp,iter,[],0⟩] scope pos) (.lst ((List.zipWith f xs ys).map .int)) ⟨l',cm,H,none,[]⟩:=
  ((ZcD (nF:=H.length) f hcmp hl (Nat.le_refl _) h hn hn' hz lH lL hll lC hc hs hxy hk hk' turn hfs).n hσ).lst
theorem ZjP (G:KF C.K) {x:Str} {e1 e2:Expr} {fpos pos rp:Pos} {st:Stmt} {xs:List PV} {b r:PV} {H':List AObj} {n:Nat} (h0:Ex1 C k fi σ st .next σ₁) (hn:σ.H.length ≤ n) (hx:gNames.contains x = true) (hk:(kd fi).lookup x = some .globalImplicit) (hd:(x == ("__debug__" : Str)) = false)
    (h1:EvNF n C k fi σ₁ e1 xs σ₂) (h2:Ev C k fi σ₂ e2 b σ₂) (h3:CallJ C k (.ref (ga C.K x)) [.lst xs,b] σ₂.H r H')
    (hst:∀ env,(starEach [e1,e2] env).any (·.1) = false:=by intro _; rfl)
    (hse:∀ env,starEach [e1,e2] env = (false,eval e1 env) :: starEach [e2] env:=by intro _; rfl) (hse2:∀ env,starEach [e2] env = (false,eval e2 env) :: starEach [] env:=by intro _; rfl)
    (he:∀ env,eval ((Expr.Name x fpos).Call [e1,e2] [] pos) env = (do let x <- eval (Expr.Name x fpos) env; callWith pos x [] (backTo pos (starEach [e1,e2] env)) (backToKw pos (keywordEach [] env))):=by intro _; rfl) :
    Ex C k fi σ [st,.Return (some ((Expr.Name x fpos).Call [e1,e2] [] pos)) rp] (.ret r) { σ₂ with H:=H' }:=by
  intro fd W s Q E ok R bk
  refine wpAny_execs_cons (h0 fd W s _ E ok R fun W0 v0 g0 t0 l0 R0 V0=>?_)
  cases V0
  refine wpAny_execs_cons (wpAny_Return_some ?_)
  refine Call_ (Ziw (σ:=σ₁) G hx hk hd fd W0 { s with heap:=g0,toks:=t0 } _ E ok R0 fun W1 v1 g1 t1 l1 R1 V1=>?_) (he _)
  apply VRel.con_e V1
  have hpl:((backTo pos (starEach [e1,e2] (fd.ev fi))).any (·.1) || ([]:List (Option Str × Sem Value)).any (·.1.isNone)) = false:=by
    simp only [List.any_nil,Bool.or_false]
    have:=hst (fd.ev fi)
    simp only [backTo,List.any_map]
    rw [List.any_eq_false] at this ⊢
    intro x hx
    exact this x hx
  refine callWith_of (P:=fun h=>C.K.In h) hpl (fun h X=>(kp_g G hx).keeps h X) ?_
  have fin:∀ W2 (v2:List Value) g2 t2,W.le W2 -> Rl fd W2 σ₂ g2 -> VRels W2 [.lst xs,b] v2 ->
      C.K.In g2 /\ wpAny C.M (fd.A fi) (call (.ref (ga C.K x)) ([] ++ v2)) (fun v s'=>Q (.ret v) s') E { s with heap:=g2,toks:=t2 }:=fun W2 v2 g2 t2 l2 R2 V2=>by
    refine e1a1 R2.fr fun m F _=>?_
    refine ⟨ok.X.keeps F.keep,h3 fi σ₂.loc σ₂.cm σ₂.ci σ₂.cc fd W2 _ _ _ E ok R2 V2 fun W3 v3 g3 t3 l3 R3 V3=>?_⟩
    exact bk W3 _ g3 t3 (l2.trans l3) R3 (.ret V3)
  have z:wpAny C.M (fd.A fi) (spliced (backTo pos (starEach [e1,e2] (fd.ev fi)))) (fun v2 s2=>C.K.In s2.heap /\ wpAny C.M (fd.A fi) (call (.ref (ga C.K x)) ([] ++ v2)) (fun v s'=>Q (.ret v) s') E s2) E { s with heap:=g1,toks:=t1 }:=by
    refine spliced_more (h1 fd W1 { s with heap:=g1,toks:=t1 } _ E ok R1 fun W2 D vs m g2 t2 l2 R2 hD hL hb hA V2=>?_) (hse _)
    refine e0a2 (R2.give_lst hD hL hb (fun q=>hA (List.mem_append_left _ q)) V2) fun l3 R3 V3=>?_
    have lW:W.le W2:=(Wd.le_of_cut (by rw [R.len]; exact hn) ((Wd.cut_mono (Nat.le_refl n) (l0.trans l1)).trans l2))
    refine spliced_more (h2 fd _ { s with heap:=g2,toks:=t2 } _ E ok R3 fun W4 v4 g4 t4 l4 R4 V4=>?_) (hse2 _)
    exact spliced_none (fin W4 _ g4 t4 (lW.trans (l3.trans l4)) R4 (.cons (VRel.mono l4 V3) (.cons V4 .nil)))
  rw [hse] at z ⊢
  exact evalArgs_plain z
end
theorem Zll {n:Nat} {i:Int}:PV.lim n (.int i) = true:=rfl
theorem Zlk {n:Nat} {i:Str}:PV.lim n (.str i) = true:=rfl
theorem Zz {n:Nat} {xs:List Int}:PV.lim n (.lst (xs.map .int)) = true:=Zbp _ _
theorem Zcl (n:Nat) (xs:List Str):PV.lims n (xs.map .str) = true:=Zb3 (fun _=>rfl) xs
theorem ZeM {n:Nat}:Builtin.Range.rangeSize 0 (n:Int) 1 = ((n:Nat):Int):=by
  unfold Builtin.Range.rangeSize
  by_cases h:n = 0
  . subst h; rfl
  . have:¬ ((n:Int) <= 0):=by lia
    simp
    lia
section
variable {C:Cx} {k:Nat} {fi:Fi} {σ σ₁ σ₂ σ':St}
theorem ZdF {value sl:Expr} {p:PV} {xs:List Int} {i:Nat} (L:LstAt σ p (xs.map .int)) (hi:i < xs.length) (hz:xs.length <= 100000) (hs:ZJ sl:=by intro _ _; rfl):SbJ C k fi σ value sl p (.int (i:Int)) (.int (xs.getD i 0)) σ:=
  Zfc L (by lia) (by lia) (by simp [List.getElem?_eq_getElem hi]) hs
theorem ZaA {x:Str} {v:PV} {l l':List (Str × PV)} {cm cc:List (Str × Nat)} {H:List AObj} {ci:Option Nat} {ss:List Stmt} {o:Out} (e:stl x v l = l') (h:Ex C k fi ⟨l',cm,H,ci,cc⟩ ss o σ'):Ex C k fi ⟨stl x v l,cm,H,ci,cc⟩ ss o σ':=e ▸ h
theorem ZdJ {iter:Expr} {x:Str} {px pos:Pos} {body:List Stmt} {a b c:Int} {n:Nat} {l0:List (Str × PV)} {cm:List (Str × Nat)} {H:List AObj} (L:Nat -> List (Str × PV)) (h:Nat -> List AObj) (hcmp:fi.cmp = none) (hk:(kd fi).lookup x = some .local)
    (hit:Ev C (k + 1) fi σ iter (.rng a b c) ⟨l0,cm,H,none,[]⟩) (hsm:Builtin.Range.small a b c = true) (hr:Builtin.Range.rangeSize a b c = ((n:Nat):Int)) (hL0:LSub (L 0) l0) (hH0:h 0 = H) (hlen:∀ i,(h i).length = H.length)
    (turn:∀ i,i < n -> ∀ os:List Obj,os.length = 1 -> ∃ l' o,(o = Out.next ∨ o = Out.cont) /\ Ex C (k + 1) fi ⟨stl x (.int (a + (i:Int) * c)) (L i),cm,h i ++ os.map .raw,none,[]⟩ body o ⟨l',cm,h (i + 1) ++ os.map .raw,none,[]⟩ /\ LSub (L (i + 1)) l')
    (hlH:LimH H.length (h n)) (hlL:LimL H.length (L n))
    (hs:∀ env x,foldedSetIterable iter env x = pure x:=by intro _ _; rfl):Ex1 C (k + 1) fi σ (.For (.Name x px) iter body [] pos) .next ⟨L n,cm,h n,none,[]⟩:=by
  have e:((List.range n).map fun i:Nat=>PV.int (a + (i:Int) * c)).length = n:=by simp
  have:=Zil (C:=C) (k:=k) (fi:=fi) (σ:=σ) (iter:=iter) (x:=x) (px:=px) (pos:=pos) (body:=body) (items:=(List.range n).map fun i:Nat=>PV.int (a + (i:Int) * c)) L h hcmp hk hit (.rng hsm hr) (fun _ e=>by cases e) hL0 hH0 hlen (fun i q hq os ho=>by
    refine e0a1 (Zb2 hq) fun hi hqa=>?_; subst hqa
    exact turn i hi os ho) (by rw [e]; exact hlH) (by rw [e]; exact hlL) hs
  rw [e] at this; exact this
theorem Za9 {iter:Expr} {x:Str} {px pos:Pos} {body:List Stmt} {n:Nat} {l0:List (Str × PV)} {cm:List (Str × Nat)} {H:List AObj} (L:Nat -> List (Str × PV)) (h:Nat -> List AObj) (hcmp:fi.cmp = none) (hk:(kd fi).lookup x = some .local)
    (hit:Ev C (k + 1) fi σ iter (.rng 0 (n:Int) 1) ⟨l0,cm,H,none,[]⟩) (hn:n <= 1000) (hL0:LSub (L 0) l0) (hH0:h 0 = H) (hlen:∀ i,(h i).length = H.length)
    (turn:∀ i,i < n -> ∀ os:List Obj,os.length = 1 -> ∃ l' o,(o = Out.next ∨ o = Out.cont) /\ Ex C (k + 1) fi ⟨stl x (.int (i:Int)) (L i),cm,h i ++ os.map .raw,none,[]⟩ body o ⟨l',cm,h (i + 1) ++ os.map .raw,none,[]⟩ /\ LSub (L (i + 1)) l')
    (hlH:LimH H.length (h n)) (hlL:LimL H.length (L n))
    (hs:∀ env x,foldedSetIterable iter env x = pure x:=by intro _ _; rfl):Ex1 C (k + 1) fi σ (.For (.Name x px) iter body [] pos) .next ⟨L n,cm,h n,none,[]⟩:=
  ZdJ L h hcmp hk hit (small_one (by decide) (by decide) (by lia) (by lia)) ZeM hL0 hH0 hlen (fun i hi os ho=>by
    have:=turn i hi os ho
    rwa [show (0 + (i:Int) * 1) = (i:Int) by lia]) hlH hlL hs
end
theorem Zjl {K:Frag} (G:KF K):∀ p ∈ mNames,isFn K (.ref (ma K p.1 p.2)) = true:=by
  have e:mNames = ([("InstructionSet", "__init__"),("Flags", "__init__"),("Flags", "told"),("Register", "__init__"),("Memory", "__init__"),("Memory", "octet"),("Memory", "set_octet"),("Memory", "read"),("Memory", "write"),("Memory", "written"),
    ("State", "__init__"),("State", "get"),("State", "put"),("State", "put_low"),("State", "offset"),("State", "place"),("State", "read"),("State", "write"),("Reg", "__init__"),("Mem", "__init__"),("Instruction", "__init__"),("Operand", "__init__"),("MachineError", "__init__")]:List (Str × Str)):=rfl
  rw [e]
  simp only [List.mem_cons,List.not_mem_nil,or_false,forall_eq_or_imp,forall_eq]
  exact ⟨G.m_iset.isfn,G.m_flags.isfn,G.m_told.isfn,G.m_register.isfn,G.m_memory.isfn,G.m_octet.isfn,G.m_set_octet.isfn,G.m_mread.isfn,G.m_mwrite.isfn,G.m_written.isfn,G.m_state.isfn,G.m_get.isfn,G.m_put.isfn,G.m_put_low.isfn,G.m_offset.isfn,G.m_place.isfn,G.m_read.isfn,G.m_write.isfn,G.m_reg.isfn,G.m_mem.isfn,G.m_instr.isfn,G.m_operand.isfn,G.m_err.isfn⟩
theorem ZfF {K:Frag} (G:KF K) {c x:Str} (h:mNames.contains (c,x) = true):isFn K (.ref (ma K c x)) = true:=Zjl G (c,x) (List.contains_iff_mem.mp h)
noncomputable def dI (mem:List (Int × Int)):List (Int × PV):=mem.map fun p=>(p.1,.int p.2)
noncomputable def mget (k:Int):List (Int × Int) -> Int
  | []=>0
  | (a,v) :: r=>if a = k then v else mget k r
theorem Zkn {k a v:Int} {r:List (Int × Int)}:mget k ((a,v) :: r) = if a = k then v else mget k r:=rfl
noncomputable def mput (k v:Int) (mem:List (Int × Int)):List (Int × Int):=if mem.any (fun e=>decide (e.1 = k)) then mem.map (fun e=>if e.1 = k then (e.1,v) else e) else mem ++ [(k,v)]
theorem ZnA (k:Int) (mem:List (Int × Int)):(lkI k (dI mem)).getD (.int 0) = .int (mget k mem):=by
  induction mem with
  | nil=>rfl
  | cons p r ih=>
    obtain ⟨a,v⟩:=p
    simp only [dI,List.map_cons,Zgf,Zkn]
    by_cases h:a = k
    . rw [if_pos h,if_pos h]; rfl
    . rw [if_neg h,if_neg h]; exact ih
theorem Zkm (k v:Int) (mem:List (Int × Int)):putI k (.int v) (dI mem) = dI (mput k v mem):=by
  unfold putI mput
  have e:(dI mem).any (fun e=>decide (e.1 = k)) = mem.any (fun e=>decide (e.1 = k)):=by simp [dI,List.any_map,Function.comp_def]
  rw [e]
  split
  . simp only [dI,List.map_map]
    apply List.map_congr_left
    intro p _
    by_cases h:p.1 = k <;> simp [h]
  . simp [dI]
theorem Zbh (k v:Int) (mem:List (Int × Int)):(mput k v mem).length <= mem.length + 1:=by
  unfold mput; split <;> simp
noncomputable def Oct (mem:List (Int × Int)):Prop:=∀ p ∈ mem,0 <= p.2 /\ p.2 < 256
theorem Oct.get {k:Int} {mem:List (Int × Int)}:Oct mem -> 0 <= mget k mem /\ mget k mem < 256:=by
  induction mem with
  | nil=>exact fun _=>⟨Int.le_refl 0,(by decide:(0:Int) < 256)⟩
  | cons p r ih=>
    obtain ⟨a,v⟩:=p
    intro h
    rw [Zkn]
    by_cases e:a = k
    . rw [if_pos e]; exact h _ (.head _)
    . rw [if_neg e]; exact ih fun p hp=>h p (.tail _ hp)
theorem Oct.put {k v:Int} {mem:List (Int × Int)} (h:Oct mem) (h0:0 <= v) (h1:v < 256):Oct (mput k v mem):=by
  unfold mput
  split
  . intro p hp
    refine e1a1 (List.mem_map.mp hp) fun q hq hqa=>?_; subst hqa
    split
    . exact ⟨h0,h1⟩
    . exact h q hq
  . intro p hp
    rcases List.mem_append.mp hp with hp | hp
    . exact h p hp
    . simp at hp; subst hp; exact ⟨h0,h1⟩
structure MemAt (K:Frag) (H:List AObj) (m md d:Nat) (mem:List (Int × Int)):Prop where
  hm:H[m]? = some (.inst (ga K "Memory") md)
  hmd:H[md]? = some (.attrs [("held", .ref d)])
  hd:H[d]? = some (.dict (dI mem))
theorem MemAt.put {K:Frag} {H:List AObj} {m md d:Nat} {mem mem':List (Int × Int)} (h:MemAt K H m md d mem):MemAt K (H.set d (.dict (dI mem'))) m md d mem':=by
  have n1:m ≠ d:=fun e=>by have:=h.hm; rw [e,h.hd] at this; cases this
  have n2:md ≠ d:=fun e=>by have:=h.hmd; rw [e,h.hd] at this; cases this
  exact ⟨by rw [List.getElem?_set_ne (Ne.symm n1)]; exact h.hm,by rw [List.getElem?_set_ne (Ne.symm n2)]; exact h.hmd,by rw [List.getElem?_set_self (List.getElem?_eq_some_iff.mp h.hd).1]⟩
theorem MemAt.app {K:Frag} {H X:List AObj} {m md d:Nat} {mem:List (Int × Int)} (h:MemAt K H m md d mem):MemAt K (H ++ X) m md d mem:=⟨ZK h.hm,ZK h.hmd,ZK h.hd⟩
theorem MemAt.same {K:Frag} {H:List AObj} {m md d:Nat} {mem:List (Int × Int)} (h:MemAt K H m md d mem):H.set d (.dict (dI mem)) = H:=by
  apply List.ext_getElem? ; intro i
  by_cases e:d = i
  . subst e; rw [List.getElem?_set_self (List.getElem?_eq_some_iff.mp h.hd).1,h.hd]
  . rw [List.getElem?_set_ne e]
theorem ZbO {n:Nat}:∀ mem:List (Int × Int),AObj.lim n (.dict (dI mem)) = true:=fun mem=>by
  induction mem with
  | nil=>rfl
  | cons p r ih=>exact ih
section
variable {C:Cx} {k:Nat} {fi:Fi} {σ σ₁ σ₂ σ':St}
theorem ZoR (G:KF C.K) {i d:Nat} {c:Str} {es:List (Str × PV)} {n:Str} (hi:σ.H[i]? = some (.inst (ga C.K c) d)) (hd:σ.H[d]? = some (.attrs es)) (hv:lk n es = none) (hx:cNames.contains (c,nsOf c) = true) (hm:mNames.contains (c,n) = true) :
    MeJ C k fi σ (.ref i) n (.ref (ma C.K c n)) [.ref i]:=Me_i G hi hd hv hx hm (ZfF G hm)
theorem ZeD {i:Nat} {mem:List (Int × Int)} {kk:Int} {H:List AObj} (D:H[i]? = some (.dict (dI mem))):CallJ C k (.builtin "dict.get") ([.ref i] ++ [.int kk,.int 0]) H (.int (mget kk mem)) H:=
  Zj7 (fun _ _ _ _=>.inl D) (ZnA kk mem)
theorem ZjK {l:List (Str × PV)} {cm:List (Str × Nat)} {H:List AObj} {ci:Option Nat} {cc:List (Str × Nat)} {i:Nat} {mem:List (Int × Int)} {kk v:Int} (D:H[i]? = some (.dict (dI mem))) (hz:mem.length <= 100000):SiJ C k fi ⟨l,cm,H,ci,cc⟩ (.ref i) (.int kk) (.int v) ⟨l,cm,H.set i (.dict (dI (mput kk v mem))),ci,cc⟩:=by
  rw [<- Zkm]
  exact ZjJ D (by simpa [dI] using hz)
theorem Zgz {l:List (Str × PV)} {cm:List (Str × Nat)} {H:List AObj} {ci:Option Nat} {cc:List (Str × Nat)} {i j:Nat} {xs:List Int} {v:Int} (D:H[i]? = some (.list (xs.map .int))) (hj:j < xs.length) (hz:xs.length <= 100000):SiJ C k fi ⟨l,cm,H,ci,cc⟩ (.ref i) (.int (j:Int)) (.int v) ⟨l,cm,H.set i (.list ((xs.set j v).map .int)),ci,cc⟩:=by
  have:=ZfU (C:=C) (k:=k) (fi:=fi) (l:=l) (cm:=cm) (ci:=ci) (cc:=cc) (j:=(j:Int)) (x:=.int v) D (by lia) (by lia) (by simpa using hj)
  simpa [List.map_set] using this
theorem Ts.cast {e:Expr} {b b':Bool} (h:Ts C k fi σ e b σ') (q:b = b'):Ts C k fi σ e b' σ':=q ▸ h
theorem Zat {t:Expr} {x y r:List Stmt} {pos:Pos} {o:Out} {c:Bool} (h:Ts C k fi σ t c σ₁) (hc:c = true) (h1:Ex C k fi σ₁ x o σ') (hn:o ≠ .next):Ex C k fi σ (.If t x y pos :: r) o σ':=by
  subst hc; exact Zy (Zet h h1) hn
theorem Zs {t:Expr} {x r:List Stmt} {pos:Pos} {o:Out} {c:Bool} (h:Ts C k fi σ t c σ₁) (hc:c = false) (h1:Ex C k fi σ₁ r o σ'):Ex C k fi σ (.If t x [] pos :: r) o σ':=by
  subst hc; exact Za (Za2 h Ze) h1
theorem ZbX {t:Expr} {x y r:List Stmt} {pos:Pos} {o:Out} {c:Bool} (h:Ts C k fi σ t c σ₁) (hc:c = true) (h1:Ex C k fi σ₁ x .next σ₂) (h2:Ex C k fi σ₂ r o σ'):Ex C k fi σ (.If t x y pos :: r) o σ':=by
  subst hc; exact Za (Zet h h1) h2
theorem Zes {t:Expr} {x y r:List Stmt} {pos:Pos} {o:Out} {c:Bool} (h:Ts C k fi σ t c σ₁) (hc:c = false) (h1:Ex C k fi σ₁ y .next σ₂) (h2:Ex C k fi σ₂ r o σ'):Ex C k fi σ (.If t x y pos :: r) o σ':=by
  subst hc; exact Za (Za2 h h1) h2
theorem ZgN {a:Int}:BinJ C k fi σ .BitAnd (.int a) (.int 255) (.int (a % 256)) σ:=by
  have:=ZiK (C:=C) (k:=k) (fi:=fi) (σ:=σ) (a:=a) (b:=255)
  rwa [bitAnd_m8] at this
end
structure MS where
  regs:List Int
  xmm:List Int
  mem:List (Int × Int)
structure SId where
  s:Nat
  sd:Nat
  r:Nat
  x:Nat
  m:Nat
  md:Nat
  d:Nat
  iset:PV
  fl:PV
structure StA (K:Frag) (H:List AObj) (b:SId) (S:MS):Prop where
  hs:H[b.s]? = some (.inst (ga K "State") b.sd)
  hsd:H[b.sd]? = some (.attrs [("iset", b.iset),("regs", .ref b.r),("xmm", .ref b.x),("flags", b.fl),("memory", .ref b.m),("rip", .int 0),("begin", .int 0),("segments", .any),("is_halted", .bool false)])
  hr:H[b.r]? = some (.list (S.regs.map .int))
  hx:H[b.x]? = some (.list (S.xmm.map .int))
  hM:MemAt K H b.m b.md b.d S.mem
  rx:b.r ≠ b.x
structure Good (S:MS):Prop where
  lr:S.regs.length = 16
  lx:S.xmm.length = 16
  oc:Oct S.mem
  lm:S.mem.length <= 800
noncomputable def SH (b:SId) (H:List AObj) (S:MS):List AObj:=((H.set b.r (.list (S.regs.map .int))).set b.x (.list (S.xmm.map .int))).set b.d (.dict (dI S.mem))
theorem Zk {b:SId} {H:List AObj} {S:MS}:(SH b H S).length = H.length:=by simp [SH]
theorem Zaa {n:Nat} {xs:List Int}:AObj.lim n (.list (xs.map .int)) = true:=Zbp _ _
theorem LimH.sh {n:Nat} {b:SId} {H:List AObj} {S:MS} (h:LimH n H):LimH n (SH b H S):=((h.set Zaa).set Zaa).set (ZbO _)
section
variable {K:Frag} {H X:List AObj} {b:SId} {S S':MS}
theorem StA.rd (h:StA K H b S):b.r ≠ b.d:=fun e=>by have:=h.hr; rw [e,h.hM.hd] at this; cases this
theorem StA.xd (h:StA K H b S):b.x ≠ b.d:=fun e=>by have:=h.hx; rw [e,h.hM.hd] at this; cases this
theorem Zia (h:StA K H b S) (i:Nat):(SH b H S')[i]? = if i = b.r then some (.list (S'.regs.map .int)) else if i = b.x then some (.list (S'.xmm.map .int)) else if i = b.d then some (.dict (dI S'.mem)) else H[i]?:=by
  have l1:=(List.getElem?_eq_some_iff.mp h.hr).1
  have l2:=(List.getElem?_eq_some_iff.mp h.hx).1
  have l3:=(List.getElem?_eq_some_iff.mp h.hM.hd).1
  have n1:=h.rd; have n2:=h.xd; have n3:=h.rx
  unfold SH
  by_cases e1:i = b.r
  . subst e1
    rw [List.getElem?_set_ne (Ne.symm n1),List.getElem?_set_ne (Ne.symm n3),List.getElem?_set_self l1]; simp
  . by_cases e2:i = b.x
    . subst e2
      rw [List.getElem?_set_ne (Ne.symm n2),List.getElem?_set_self (by simpa using l2)]; simp [e1]
    . by_cases e3:i = b.d
      . subst e3
        rw [List.getElem?_set_self (by simpa using l3)]; simp [e1,e2]
      . rw [List.getElem?_set_ne (Ne.symm e3),List.getElem?_set_ne (Ne.symm e2),List.getElem?_set_ne (Ne.symm e1)]; simp [e1,e2,e3]
theorem StA.setR (h:StA K H b S) {xs:List Int}:H.set b.r (.list (xs.map .int)) = SH b H { S with regs:=xs }:=by
  have l1:=(List.getElem?_eq_some_iff.mp h.hr).1
  apply List.ext_getElem?; intro i
  rw [Zia h]
  by_cases e1:i = b.r
  . subst e1; rw [List.getElem?_set_self l1]; simp
  . rw [List.getElem?_set_ne (Ne.symm e1),if_neg e1]
    split
    . rename_i e; rw [e,h.hx]
    . split
      . rename_i e; rw [e,h.hM.hd]
      . rfl
theorem StA.setX (h:StA K H b S) {xs:List Int}:H.set b.x (.list (xs.map .int)) = SH b H { S with xmm:=xs }:=by
  have l1:=(List.getElem?_eq_some_iff.mp h.hx).1
  apply List.ext_getElem?; intro i
  rw [Zia h]
  by_cases e1:i = b.x
  . subst e1; rw [List.getElem?_set_self l1]; simp [Ne.symm h.rx]
  . rw [List.getElem?_set_ne (Ne.symm e1),if_neg e1]
    split
    . rename_i e; rw [e,h.hr]
    . split
      . rename_i e; rw [e,h.hM.hd]
      . rfl
theorem StA.setM (h:StA K H b S) {m:List (Int × Int)}:H.set b.d (.dict (dI m)) = SH b H { S with mem:=m }:=by
  have l1:=(List.getElem?_eq_some_iff.mp h.hM.hd).1
  apply List.ext_getElem?; intro i
  rw [Zia h]
  by_cases e1:i = b.d
  . subst e1; rw [List.getElem?_set_self l1]; simp [Ne.symm h.rd,Ne.symm h.xd]
  . rw [List.getElem?_set_ne (Ne.symm e1),if_neg e1]
    split
    . rename_i e; rw [e,h.hr]
    . split
      . rename_i e; rw [e,h.hx]
      . rfl
end
noncomputable def pvIs (p:PV) (v:Value):Bool:=by
  cases p with
  | int i=>exact Zlx v == some i
  | str i=>exact Zk4 v == some i
  | none=>exact ZeR v
  | _=>exact false
noncomputable def Zkl:List PV -> List Value -> Bool:=List.rec (fun vs=>vs.isEmpty) fun p _ ih vs=>by
  cases vs with
  | nil=>exact false
  | cons v vs=>exact pvIs p v && ih vs
theorem ZiV {p:PV} {v:Value} (h:pvIs p v = true) (W:Wd):VRel W p v:=by
  cases p with
  | int i=>refine e1a0 (ZhA (beq_iff_eq.mp h)) fun t hqa=>?_; subst hqa; exact .int _ _
  | str i=>refine e1a0 (ZgV (beq_iff_eq.mp h)) fun t hqa=>?_; subst hqa; exact .str _ _
  | none=>rw [Zd5 h]; exact .none
  | _=>exact ft h
theorem Zgb (W:Wd) {p:List PV}:∀ {v:List Value},Zkl p v = true -> VRels W p v:=by
  induction p with
  | nil=>intro v h; cases v with
    | nil=>exact .nil
    | cons _ _=>exact ft h
  | cons p ps ih=>intro v h; cases v with
    | nil=>exact ft h
    | cons v vs=>
      have:=Bool.and_eq_true_iff.mp h
      exact .cons (ZiV this.1 W) (ih this.2)
noncomputable def Znc (d:Data):Option (List Value × Nat):=by
  cases d with
  | seq items n=>exact some (items.toList,n)
  | _=>exact none
theorem Zlb {d:Data} {x:List Value × Nat} (h:Znc d = some x):d = .seq (Array.mk x.1) x.2:=by
  cases d with
  | seq items n=>rw [<- Option.some.inj h]
  | _=>exact nse h
noncomputable def ZfL (K:Frag) (a:Addr) (ds:List PV):Bool:=(((ZeL (ZL K a).defaults).bind fun T=>K.lookup T).bind fun o=>Znc o.data).any fun x=>Zkl ds x.1
theorem Ze1 {K:Frag} {a:Addr} {ds:List PV} (h:ZfL K a ds = true):∃ T o vs n,(ZL K a).defaults = .ref T /\ K.lookup T = some o /\ o.data = .seq (Array.mk vs) n /\ ∀ W,VRels W ds vs:=by
  refine e1a1 ((Option.any_eq_true _ _).mp h) fun x h1 h2=>?_
  refine e1a1 (Option.bind_eq_some_iff.mp h1) fun o h3 h4=>?_
  refine e1a1 (Option.bind_eq_some_iff.mp h3) fun T h5 h6=>?_
  exact ⟨T,o,x.1,x.2,ZeK h5,h6,Zlb h4,fun W=>Zgb W h2⟩
structure KD (K:Frag):Prop where
  d_mem:ZfL K (ma K "Mem" "__init__") [.int 0,.str "", .str ""] = true
  d_instr:ZfL K (ma K "Instruction" "__init__") [.str ""] = true
  d_err:ZfL K (ma K "MachineError" "__init__") [.none] = true
theorem Zg0 {H L:List AObj} {j:Nat} {o:AObj}:(H ++ L).set (H.length + j) o = H ++ L.set j o:=by
  rw [List.set_append_right _ _ (by lia)]; simp
theorem Zdo {H L:List AObj} {j:Nat} {o:AObj} (h:L[j]? = some o):(H ++ L)[H.length + j]? = some o:=by
  rw [List.getElem?_append_right (by lia)]; simpa using h
theorem Znb {α:Type} {a b:α} {r:List α}:(a :: r).set 0 b = b :: r:=rfl
theorem ZoJ {α:Type} {X:List α}:[] ++ X = X:=rfl
theorem ZoK {α:Type} {a:α} {r r' X:List α} (h:r ++ X = r'):(a :: r) ++ X = a :: r':=by rw [List.cons_append,h]
theorem Zor {α:Type}:([]:List α).length = 0:=rfl
theorem Zos {α:Type} {a:α} {r:List α} {n:Nat} (h:r.length = n):(a :: r).length = n + 1:=by rw [List.length_cons,h]
section
variable {C:Cx} {k:Nat} {fi:Fi} {σ σ₁ σ₂ σ':St}
theorem Zl9 {value sl:Expr} {p:PV} {xs:List Str} {i:Nat} (L:LstAt σ p (xs.map .str)) (hi:i < xs.length) (hz:xs.length ≤ 100000) (hs:ZJ sl:=by intro _ _; rfl):SbJ C k fi σ value sl p (.int (i:Int)) (.str (xs.getD i "")) σ:=
  Zfc L (by lia) (by lia) (by simp [List.getElem?_eq_getElem hi]) hs
theorem Za3 (G:KF C.K) {c:Str} {args:List PV} {H:List AObj} {es:List (Str × PV)} (hx:cNames.contains (c,nsOf c) = true) (hm:mNames.contains (c,Str.ofString "__init__") = true)
    (hinit:CodeJ C k (.ref (ma C.K c "__init__")) (.ref (H.length + 1) :: args) (H ++ [.attrs [],.inst (ga C.K c) (H.length + 0)]) .none (H ++ [.attrs es,.inst (ga C.K c) (H.length + 0)])) (hl:PV.lims H.length args = true → PV.limA H.length es = true):CallJ C (k + 1) (.ref (ga C.K c)) args H (.obj (ga C.K c) es) H:=
  Zj6 (ok_c G.ok hx).1 (ok_m G.ok hm) (ZfF G hm) hinit hl
theorem ZcI (G:KF C.K) {c:Str} {args:List PV} {H H₁:List AObj} (hx:cNames.contains (c,nsOf c) = true) (hm:mNames.contains (c,Str.ofString "__init__") = true)
    (hinit:CodeJ C k (.ref (ma C.K c "__init__")) (.ref (H.length + 1) :: args) (H ++ [.attrs [],.inst (ga C.K c) (H.length + 0)]) .none H₁):CallJ C (k + 1) (.ref (ga C.K c)) args H (.ref (H.length + 1)) H₁:=
  Zf5 (ok_c G.ok hx).1 (ok_m G.ok hm) (ZfF G hm) hinit
section
variable {l:List (Str × PV)} {cm:List (Str × Nat)} {H L L':List AObj} {ci:Option Nat} {cc:List (Str × Nat)}
theorem ZkE (G:KF C.K) {i d:Nat} {c:Str} {es es':List (Str × PV)} {n:Str} {p:PV} (hi:L[i]? = some (.inst (ga C.K c) (H.length + d))) (hd:L[d]? = some (.attrs es)) (hx:cNames.contains (c,nsOf c) = true) (hn:(nsOf c).contains n = true) (he:stl n p es = es') (hz:es'.length <= 1000) (hL:L.set d (.attrs es') = L') :
    SaJ C k fi ⟨l,cm,H ++ L,ci,cc⟩ (.ref (H.length + i)) n p ⟨l,cm,H ++ L',ci,cc⟩:=by
  have:=ZoL (C:=C) (k:=k) (fi:=fi) (l:=l) (cm:=cm) (ci:=ci) (cc:=cc) G (H:=H ++ L) (i:=H.length + i) (d:=H.length + d) (p:=p) (Zdo hi) (Zdo hd) hx hn he hz
  rwa [Zg0,hL] at this
theorem Zn9 (G:KF C.K) {i d:Nat} {c:Str} {es:List (Str × PV)} {n:Str} {p:PV} (hi:L[i]? = some (.inst (ga C.K c) (H.length + d))) (hd:L[d]? = some (.attrs es)) (hv:lk n es = some p) (hx:cNames.contains (c,nsOf c) = true) (hn:(nsOf c).contains n = true) (hp:Handed p):GaJ C k fi ⟨l,cm,H ++ L,ci,cc⟩ (.ref (H.length + i)) n p ⟨l,cm,H ++ L,ci,cc⟩:=
  Ga_i G (Zdo hi) (Zdo hd) hv hx hn hp
theorem Zix {pos:Pos} {n:Nat} (hn:L.length = n) (hL:L ++ [.dict []] = L'):Ev C k fi ⟨l,cm,H ++ L,ci,cc⟩ (.Dict [] [] pos) (.ref (H.length + n)) ⟨l,cm,H ++ L',ci,cc⟩:=by
  have:=Zev (C:=C) (k:=k) (fi:=fi) (l:=l) (cm:=cm) (ci:=ci) (cc:=cc) (H:=H ++ L) (pos:=pos)
  rw [List.length_append,hn,List.append_assoc,hL] at this; exact this
theorem Zj8 {p x:PV} {m:Int} {n:Nat} (hl:LstAt ⟨l,cm,H ++ L,ci,cc⟩ p [x]) (h0:0 <= m) (hz:m <= 100000) (hn:L.length = n) (hL:L ++ [.list (List.replicate m.toNat x)] = L'):BinJ C k fi ⟨l,cm,H ++ L,ci,cc⟩ .Mult p (.int m) (.ref (H.length + n)) ⟨l,cm,H ++ L',ci,cc⟩:=by
  have:=Zj9 (C:=C) (k:=k) (fi:=fi) hl h0 hz
  rw [List.length_append,hn,List.append_assoc,hL] at this; exact this
end
end
theorem Zfv {α β:Type} (f:α -> β) (l:List α) (lo hi:Option Int):pick (l.map f) lo hi = (pick l lo hi).map f:=by
  unfold pick; simp [List.map_take,List.map_drop]
section
variable {C:Cx} {k:Nat} {fi:Fi} {σ σ₁ σ₂ σ':St}
theorem ZQ {a b:Int} (hb:0 < b):BinJ C k fi σ .Mod (.int a) (.int b) (.int (a % b)) σ:=by
  have:=ZiI (C:=C) (k:=k) (fi:=fi) (σ:=σ) (a:=a) (b:=b) (by lia)
  rwa [Int.fmod_eq_emod_of_nonneg _ (Int.le_of_lt hb)] at this
theorem Zb9 {a b:Int} (hb:0 < b) (hp:Builtin.divisionGoesByPylong a b = false):BinJ C k fi σ .FloorDiv (.int a) (.int b) (.int (a / b)) σ:=by
  have:=ZiJ (C:=C) (k:=k) (fi:=fi) (σ:=σ) (a:=a) (b:=b) (by lia) hp
  rwa [Int.fdiv_eq_ediv_of_nonneg _ (Int.le_of_lt hb)] at this
theorem Zby {e:Expr} {lo hi:Option Expr} {p pos:Pos} {v:PV} {xs:List Int} {i j:Option Int} (h:Ev C k fi σ e v σ₁) (L:LstAt σ₁ v (xs.map .int)) (hl:EvP C k fi σ₁ lo i) (hu:EvP C k fi σ₁ hi j) (hz:xs.length <= 100000)
    (hs:∀ va vi,subscripted (.Slice lo hi none p) false va vi = operate [vi,va] (getItem va vi):=by intro _ _; rfl) :
    Ev C k fi σ (e.Subscript (.Slice lo hi none p) pos) (.lst ((pick xs i j).map .int)) σ₁:=by
  rw [<- Zfv]; exact ZjR h L hl hu (by simpa using hz) hs
theorem ZmD {e st:Expr} {p pos:Pos} {v:PV} {xs:List PV} (h:Ev C k fi σ e v σ₁) (L:LstAt σ₁ v xs) (hst:Ev C k fi σ₁ st (.int (-1)) σ₁) (hz:xs.length <= 100000)
    (hs:∀ va vi,subscripted (.Slice none none (some st) p) false va vi = operate [va,vi] (getItem va vi):=by intro _ _; rfl) :
    Ev C k fi σ (e.Subscript (.Slice none none (some st) p) pos) (.lst xs.reverse) σ₁:=by
  intro fd W s Q E ok R bk
  refine Subscript_ (h fd W s _ E ok R fun W1 v1 g1 t1 l1 R1 V1=>?_)
  refine wpAny_Slice (wpAny_pure (wpAny_pure (hst fd W1 { s with heap:=g1,toks:=t1 } _ _ ok R1 fun W3 v3 g3 t3 l3 R3 P3=>?_)))
  obtain ⟨tk9,hv3⟩:∃ tk9,v3 = .int (-1) tk9:=by cases P3; exact ⟨_,rfl⟩
  subst hv3
  refine e3a2 (L.at R3 (VRel.mono l3 V1)) fun a vs n hqa h1 h2=>?_; subst hqa
  refine e1a1 R3.fr fun m F lc=>?_
  have h1':=Heap.get?_push_of_some { cls:=.type "slice", data:=.fields #[.none,.none,.int (-1) tk9] } h1
  refine tail_any (s:={ s with heap:=g3.push { cls:=.type "slice", data:=.fields #[.none,.none,.int (-1) tk9] },toks:=t3 }) (Zv h1').typeIs slot_list_getitem.lookup (wpAny_getItem_list_slice (s:={ s with heap:=g3.push { cls:=.type "slice", data:=.fields #[.none,.none,.int (-1) tk9] },toks:=t3 }) (Zv h1') ⟨_,Heap.get?_push_size _ rfl,rfl,rfl⟩ .none .none (.int _ _) (by intro e; cases e) ?_ (by rw [List.size_toArray,← VRels.length h2,sizeLine_eq]; lia)) (hs _ _)
  rw [krv_pick]
  have R4:=(R3.push { cls:=.type "slice", data:=.fields #[.none,.none,.int (-1) tk9] }).fresh (o':=lstO vs.reverse 0) rfl
  exact bk _ _ _ t3 ((l1.trans l3).trans (Wd.le_frz _ _ _)) R4 (.lst (Wd.frz_at _ _ _) (VRels.mono (Wd.le_frz _ _ _) h2.reverse))
theorem ZmC {e st:Expr} {p pos:Pos} {v:PV} {xs:List Int} (h:Ev C k fi σ e v σ₁) (L:LstAt σ₁ v (xs.map .int)) (hst:Ev C k fi σ₁ st (.int (-1)) σ₁) (hz:xs.length <= 100000)
    (hs:∀ va vi,subscripted (.Slice none none (some st) p) false va vi = operate [va,vi] (getItem va vi):=by intro _ _; rfl) :
    Ev C k fi σ (e.Subscript (.Slice none none (some st) p) pos) (.lst (xs.reverse.map .int)) σ₁:=by
  rw [List.map_reverse]; exact ZmD h L hst (by simpa using hz) hs
theorem Zff {iter:Expr} {x:Str} {px pos:Pos} {body:List Stmt} {xs:List Int} {l0:List (Str × PV)} {cm:List (Str × Nat)} {H:List AObj} (L:Nat -> List (Str × PV)) (h:Nat -> List AObj) (hcmp:fi.cmp = none) (hk:(kd fi).lookup x = some .local)
    (hit:Ev C (k + 1) fi σ iter (.lst (xs.map .int)) ⟨l0,cm,H,none,[]⟩) (hL0:LSub (L 0) l0) (hH0:h 0 = H) (hlen:∀ i,(h i).length = H.length)
    (turn:∀ i,i < xs.length -> ∀ os:List Obj,os.length = 1 -> ∃ l' o,(o = Out.next ∨ o = Out.cont) /\ Ex C (k + 1) fi ⟨stl x (.int (xs.getD i 0)) (L i),cm,h i ++ os.map .raw,none,[]⟩ body o ⟨l',cm,h (i + 1) ++ os.map .raw,none,[]⟩ /\ LSub (L (i + 1)) l')
    (hlH:LimH H.length (h xs.length)) (hlL:LimL H.length (L xs.length))
    (hs:∀ env x,foldedSetIterable iter env x = pure x:=by intro _ _; rfl):Ex1 C (k + 1) fi σ (.For (.Name x px) iter body [] pos) .next ⟨L xs.length,cm,h xs.length,none,[]⟩:=by
  have:=Zil (C:=C) (k:=k) (fi:=fi) (σ:=σ) (iter:=iter) (x:=x) (px:=px) (pos:=pos) (body:=body) (items:=xs.map .int) L h hcmp hk hit (.lst _) (fun _ e=>by cases e) hL0 hH0 hlen (fun i q hq os ho=>by
    have hi:i < xs.length:=by have:=(List.getElem?_eq_some_iff.mp hq).1; simpa using this
    have:q = .int (xs.getD i 0):=by
      rw [List.getElem?_map,List.getElem?_eq_getElem hi] at hq
      simp at hq; rw [<- hq]; simp [List.getElem?_eq_getElem hi]
    rw [this]
    exact turn i hi os ho) (by simpa using hlH) (by simpa using hlL) hs
  simpa using this
theorem ZbJ {x a b:Str}:CmpJ C k fi σ .In (.str x) (.tup [.str a,.str b]) ([a,b].any (· == x)) σ:=ZeB (ss:=[a,b])
theorem Zc8 {e:Expr} {pos:Pos} {j:Nat} {xs:List PV} {l:List (Str × PV)} {cm:List (Str × Nat)} {H:List AObj} {ci:Option Nat} {cc:List (Str × Nat)} (h:Ev C k fi σ e (.ref j) ⟨l,cm,H,ci,cc⟩) (hj:H[j]? = some (.list xs)):Ex1 C k fi σ (.Return (some e) pos) (.ret (.lst xs)) ⟨l,cm,H.set j .dead,ci,cc⟩:=
  Z1 (Zog h hj)
end
theorem Znf {a m:Nat}:Builtin.Range.rangeSize (a:Int) ((a:Int) + (m:Int)) 1 = ((m:Nat):Int):=by
  rw [rangeSize_one]; split <;> lia
section
variable {C:Cx} {k:Nat} {fi:Fi} {σ σ₁ σ₂ σ':St}
theorem ZmA {iter:Expr} {x:Str} {px pos:Pos} {body:List Stmt} {a m:Nat} {l0:List (Str × PV)} {cm:List (Str × Nat)} {H:List AObj} (L:Nat -> List (Str × PV)) (h:Nat -> List AObj) (hcmp:fi.cmp = none) (hk:(kd fi).lookup x = some .local)
    (hit:Ev C (k + 1) fi σ iter (.rng (a:Int) ((a:Int) + (m:Int)) 1) ⟨l0,cm,H,none,[]⟩) (ha:a <= 100000) (hm:m <= 1000) (hL0:LSub (L 0) l0) (hH0:h 0 = H) (hlen:∀ i,(h i).length = H.length)
    (turn:∀ i,i < m -> ∀ os:List Obj,os.length = 1 -> ∃ l' o,(o = Out.next ∨ o = Out.cont) /\ Ex C (k + 1) fi ⟨stl x (.int ((a + i:Nat):Int)) (L i),cm,h i ++ os.map .raw,none,[]⟩ body o ⟨l',cm,h (i + 1) ++ os.map .raw,none,[]⟩ /\ LSub (L (i + 1)) l')
    (hlH:LimH H.length (h m)) (hlL:LimL H.length (L m))
    (hs:∀ env x,foldedSetIterable iter env x = pure x:=by intro _ _; rfl):Ex1 C (k + 1) fi σ (.For (.Name x px) iter body [] pos) .next ⟨L m,cm,h m,none,[]⟩:=
  ZdJ L h hcmp hk hit (small_one (by lia) (by lia) (by lia) (by lia)) Znf hL0 hH0 hlen (fun i hi os ho=>by
    have:=turn i hi os ho
    rwa [show (a:Int) + (i:Int) * 1 = ((a + i:Nat):Int) by lia]) hlH hlL hs
theorem Zik {iter:Expr} {x:Str} {px pos:Pos} {body:List Stmt} {b:Int} {m n:Nat} {l0:List (Str × PV)} {cm:List (Str × Nat)} {H:List AObj} (L:Nat -> List (Str × PV)) (h:Nat -> List AObj) (hcmp:fi.cmp = none) (hk:(kd fi).lookup x = some .local)
    (hit:Ev C (k + 1) fi σ iter (.rng 0 b (m:Int)) ⟨l0,cm,H,none,[]⟩) (hsm:Builtin.Range.small 0 b (m:Int) = true) (hr:Builtin.Range.rangeSize 0 b (m:Int) = ((n:Nat):Int)) (hL0:LSub (L 0) l0) (hH0:h 0 = H) (hlen:∀ i,(h i).length = H.length)
    (turn:∀ i,i < n -> ∀ os:List Obj,os.length = 1 -> ∃ l' o,(o = Out.next ∨ o = Out.cont) /\ Ex C (k + 1) fi ⟨stl x (.int ((i * m:Nat):Int)) (L i),cm,h i ++ os.map .raw,none,[]⟩ body o ⟨l',cm,h (i + 1) ++ os.map .raw,none,[]⟩ /\ LSub (L (i + 1)) l')
    (hlH:LimH H.length (h n)) (hlL:LimL H.length (L n))
    (hs:∀ env x,foldedSetIterable iter env x = pure x:=by intro _ _; rfl):Ex1 C (k + 1) fi σ (.For (.Name x px) iter body [] pos) .next ⟨L n,cm,h n,none,[]⟩:=
  ZdJ L h hcmp hk hit hsm hr hL0 hH0 hlen (fun i hi os ho=>by
    have:=turn i hi os ho
    rwa [show (0:Int) + (i:Int) * (m:Int) = ((i * m:Nat):Int) by rw [Int.natCast_mul]; lia]) hlH hlL hs
theorem ZaL {H r r':List AObj} {a:AObj}:(((H ++ [a]) ++ r) ++ r')[H.length]? = some a:=by simp
theorem ZiT {H r r':List AObj} {a b:AObj}:(((H ++ [a]) ++ r) ++ r').set H.length b = ((H ++ [b]) ++ r) ++ r':=by
  rw [List.append_assoc,List.append_assoc,List.append_assoc,List.append_assoc,List.set_append_right _ _ (Nat.le_refl _)]; simp
theorem ZfC {n:Nat}:∀ os:List Obj,LimH n (os.map AObj.raw):=fun os o ho=>by
  refine e1a1 (List.mem_map.mp ho) fun x _ hqa=>?_; subst hqa; rfl
end
noncomputable def rowP (r:List Int):PV:=.lst (r.map .int)
theorem Zi2 {n:Nat} {r:List Int}:PV.lim n (rowP r) = true:=Zz
theorem Zhn (n:Nat) (xs:List (List Int)):PV.lims n (xs.map rowP) = true:=Zb3 (fun _=>Zi2) xs
theorem Zdj {n:Nat} {xs:List (List Int)}:AObj.lim n (.list (xs.map rowP)) = true:=Zhn _ _
section
variable {C:Cx} {k:Nat} {fi:Fi} {σ σ₁ σ₂ σ':St}
theorem ZgA {value sl:Expr} {p:PV} {xs:List (List Int)} {i:Nat} (L:LstAt σ p (xs.map rowP)) (hi:i < xs.length) (hz:xs.length <= 100000) (hs:ZJ sl:=by intro _ _; rfl):SbJ C k fi σ value sl p (.int (i:Int)) (rowP (xs.getD i [])) σ:=
  Zfc L (by lia) (by lia) (by simp [List.getElem?_eq_getElem hi]) hs
theorem Zbw {iter:Expr} {x:Str} {px pos:Pos} {body:List Stmt} {n:Nat} {l0:List (Str × PV)} {cm:List (Str × Nat)} {H:List AObj} {c:Nat} (L:Nat -> List (Str × PV)) (h:Nat -> List AObj) (hcmp:fi.cmp = none) (hk:(kd fi).lookup x = some .cell) (hc:lkN x cm = some c) (hcl:c < H.length) (hcv:∀ i,∃ u,(h i)[c]? = some (.cell u))
    (hit:Ev C (k + 1) fi σ iter (.rng 0 (n:Int) 1) ⟨l0,cm,H,none,[]⟩) (hn:n <= 1000) (hL0:LSub (L 0) l0) (hH0:h 0 = H) (hlen:∀ i,(h i).length = H.length)
    (turn:∀ i,i < n -> ∀ os:List Obj,os.length = 1 -> ∃ l' o,(o = Out.next ∨ o = Out.cont) /\ Ex C (k + 1) fi ⟨L i,cm,(h i).set c (.cell (some (.int (i:Int)))) ++ os.map .raw,none,[]⟩ body o ⟨l',cm,h (i + 1) ++ os.map .raw,none,[]⟩ /\ LSub (L (i + 1)) l')
    (hlH:LimH H.length (h n)) (hlL:LimL H.length (L n))
    (hs:∀ env x,foldedSetIterable iter env x = pure x:=by intro _ _; rfl):Ex1 C (k + 1) fi σ (.For (.Name x px) iter body [] pos) .next ⟨L n,cm,h n,none,[]⟩:=by
  have e:((List.range n).map fun i:Nat=>PV.int (0 + (i:Int) * 1)).length = n:=by simp
  have:=Zmz (C:=C) (k:=k) (fi:=fi) (σ:=σ) (iter:=iter) (x:=x) (px:=px) (pos:=pos) (body:=body) (items:=(List.range n).map fun i:Nat=>PV.int (0 + (i:Int) * 1)) L h hcmp hk hc hcl hcv hit (.rng (small_one (by decide) (by decide) (by lia) (by lia)) ZeM) (fun _ e=>by cases e) hL0 hH0 hlen (fun i q hq os ho=>by
    refine e0a1 (Zb2 hq) fun hi hqa=>?_; subst hqa
    have:=turn i hi os ho
    rwa [show (0 + (i:Int) * 1) = (i:Int) by lia]) (by rw [e]; exact hlH) (by rw [e]; exact hlL) hs
  rw [e] at this; exact this
end
noncomputable def Ra (C:Cx) (fd:Fd) (fi:Fi) (W:Wd) (σ:St) (e:Addr) (h':Heap):Prop:=
  ∃ G m W₁ h₁ t vs,W.le W₁ /\ Fr fd.b fd.L G m /\ (∀ x v,lk x σ.loc = some v -> ∃ v',m x = some v' /\ VRel W₁ v v') /\ Rl fd W₁ σ h₁ /\
    RaisedS fd.base G (fd.env fi :: fd.outer) e (.ref (ga C.K "MachineError")) t vs (W₁.led h₁) h' ∧ G.UpToSlots h'
theorem Ra.le {C:Cx} {fd:Fd} {fi:Fi} {W W':Wd} {σ:St} {e:Addr} {h':Heap} (l:W.le W') (h:Ra C fd fi W' σ e h'):Ra C fd fi W σ e h':=by
  refine e6a1 h fun G m W₁ h₁ t vs l1 r=>?_
  exact ⟨G,m,W₁,h₁,t,vs,l.trans l1,r⟩
noncomputable abbrev Bx (C:Cx) (fd:Fd) (fi:Fi) (W:Wd) (σ:St) (s:Shared) (E:Value -> Shared -> Prop):Prop:=∀ e h' tk',Ra C fd fi W σ e h' -> E (.ref e) { s with heap:=h',toks:=tk' }
noncomputable def JtX {α:Type} (C:Cx) (k:Nat) (fi:Fi) (σ:St) (t:Fd -> Sem α) (σ':St):Prop:=
  ∀ (fd:Fd) (W:Wd) (s:Shared) (Q:α -> Shared -> Prop) (E:Value -> Shared -> Prop),OkF C k fi fd -> Rl fd W σ s.heap -> Bx C fd fi W σ' s E -> wpAny C.M (fd.A fi) (t fd) Q E s
noncomputable def EvX (C:Cx) (k:Nat) (fi:Fi) (σ:St) (e:Expr) (σ':St):Prop:=JtX C k fi σ (fun fd=>eval e (fd.ev fi)) σ'
noncomputable def TsX (C:Cx) (k:Nat) (fi:Fi) (σ:St) (e:Expr) (σ':St):Prop:=JtX C k fi σ (fun fd=>isTrue e (fd.ev fi) (eval e (fd.ev fi))) σ'
noncomputable def ExX1 (C:Cx) (k:Nat) (fi:Fi) (σ:St) (st:Stmt) (σ':St):Prop:=JtX C k fi σ (fun fd=>exec st (fd.ev fi)) σ'
noncomputable def ExX (C:Cx) (k:Nat) (fi:Fi) (σ:St) (ss:List Stmt) (σ':St):Prop:=JtX C k fi σ (fun fd=>execs ss (fd.ev fi)) σ'
noncomputable def Zb1 (C:Cx) (k:Nat) (f:Value) (args:List PV) (H:List AObj):Prop:=
  ∀ (fi:Fi) (loc:List (Str × PV)) (cm:List (Str × Nat)) (ci:Option Nat) (cc:List (Str × Nat)) (fd:Fd) (W:Wd) (s:Shared) (vs:List Value) (Q E:Value -> Shared -> Prop),OkF C k fi fd -> Rl fd W ⟨loc,cm,H,ci,cc⟩ s.heap -> VRels W args vs ->
    Bx C fd fi W ⟨loc,cm,H,ci,cc⟩ s E -> wpAny C.M (fd.A fi) (call f vs) Q E s
section
variable {C:Cx} {k:Nat} {fi:Fi} {σ σ₁ σ₂ σ':St}
theorem Zba (G:KF C.K) {x:Str} {args:List PV} {es:List Expr} {fpos pos:Pos} {l:List (Str × PV)} {cm:List (Str × Nat)} {H:List AObj} {ci:Option Nat} {cc:List (Str × Nat)} (hx:gNames.contains x = true) (hk:(kd fi).lookup x = some .globalImplicit) (hd:(x == ("__debug__" : Str)) = false)
    {e:Expr} {rest:List Expr} (hes:es = e :: rest) (h2:Evs C k fi σ es pos args ⟨l,cm,H,ci,cc⟩) (h3:Zb1 C k (.ref (ga C.K x)) args H)
    (hst:∀ env,(starEach es env).any (·.1) = false:=by intro _; rfl)
    (he:∀ env,eval ((Expr.Name x fpos).Call es [] pos) env = (do let x <- eval (Expr.Name x fpos) env; callWith pos x [] (backTo pos (starEach es env)) (backToKw pos (keywordEach [] env))):=by intro _; rfl):EvX C k fi σ ((Expr.Name x fpos).Call es [] pos) ⟨l,cm,H,ci,cc⟩:=by
  intro fd W s Q E ok R bk
  refine Call_ (Ziw (σ:=σ) G hx hk hd fd W s _ E ok R fun W1 v1 g1 t1 l1 R1 V1=>?_) (he _)
  apply VRel.con_e V1
  have hpl:((backTo pos (starEach es (fd.ev fi))).any (·.1) || ([]:List (Option Str × Sem Value)).any (·.1.isNone)) = false:=by
    simp only [List.any_nil,Bool.or_false]
    have:=hst (fd.ev fi)
    simp only [backTo,List.any_map]
    rw [List.any_eq_false] at this ⊢
    intro x hx
    exact this x hx
  refine callWith_of (P:=fun h=>C.K.In h) hpl (fun h X=>(kp_g G hx).keeps h X) ?_
  have fin:∀ W2 (v2:List Value) g2 t2,W1.le W2 -> Rl fd W2 ⟨l,cm,H,ci,cc⟩ g2 -> VRels W2 args v2 ->
      C.K.In g2 /\ wpAny C.M (fd.A fi) (call (.ref (ga C.K x)) ([] ++ v2)) Q E { s with heap:=g2,toks:=t2 }:=fun W2 v2 g2 t2 l2 R2 V2=>by
    refine e1a1 R2.fr fun m F _=>?_
    exact ⟨ok.X.keeps F.keep,h3 fi l cm ci cc fd W2 { s with heap:=g2,toks:=t2 } _ Q E ok R2 V2 fun e h' tk' ra=>bk e h' tk' (ra.le (l1.trans l2))⟩
  subst hes
  have hse:=Zfp (hst (fd.ev fi))
  have z:wpAny C.M (fd.A fi) (spliced (backTo pos (starEach (e :: rest) (fd.ev fi)))) (fun v1 s1=>C.K.In s1.heap /\ wpAny C.M (fd.A fi) (call (.ref (ga C.K x)) ([] ++ v1)) Q E s1) E { s with heap:=g1,toks:=t1 }:=h2 fd W1 { s with heap:=g1,toks:=t1 } _ E ok R1 fin
  rw [hse] at z ⊢
  exact evalArgs_plain z
theorem Zek {e:Expr} (h:EvX C k fi σ e σ') (hp:∀ env whole,isTrue e env whole = (do let v <- whole; standAt e.pos; holding [v] (truthy v)):=by intro _ _; rfl):TsX C k fi σ e σ':=by
  intro fd W s Q E ok R bk
  exact isTrue_plain (h fd W s _ E ok R bk) (hp _ _)
theorem ZlY {x:Expr} {pos:Pos} (h:TsX C k fi σ x σ'):TsX C k fi σ (.UnaryOp .Not x pos) σ':=by
  intro fd W s Q E ok R bk
  exact isTrue_not (h fd W s _ E ok R bk)
theorem Zio {t:Expr} {x y:List Stmt} {pos:Pos} (h:TsX C k fi σ t σ'):ExX1 C k fi σ (.If t x y pos) σ':=by
  intro fd W s Q E ok R bk
  exact wpAny_If (h fd W s _ E ok R bk)
theorem ZfY {t:Expr} {x y:List Stmt} {pos:Pos} {c:Bool} (h:Ts C k fi σ t c σ₁) (hc:c = true) (h2:ExX C k fi σ₁ x σ'):ExX1 C k fi σ (.If t x y pos) σ':=by
  subst hc
  intro fd W s Q E ok R bk
  refine wpAny_If (h fd W s _ E ok R fun W1 v1 g1 t1 l1 R1 V1=>?_)
  subst V1
  simp only [if_true]
  exact h2 fd W1 _ Q E ok R1 fun e h' tk' ra=>bk e h' tk' (ra.le l1)
theorem Zbx {e:Expr} {pos:Pos} (h:EvX C k fi σ e σ') (hs:∀ env,swapsWith e none pos.line env = pure false:=by intro _; rfl):ExX1 C k fi σ (.Expr e pos) σ':=by
  intro fd W s Q E ok R bk
  have hi:interactive (fd.ev fi) = false:=by simp [interactive,Env.blockKind,ZaS ok]
  exact wpAny_Expr_any (h fd W s _ E ok R bk) hi (hs _)
theorem ZaB {st:Stmt} {r:List Stmt} (h:ExX1 C k fi σ st σ'):ExX C k fi σ (st :: r) σ':=by
  intro fd W s Q E ok R bk
  exact wpAny_execs_cons (h fd W s _ E ok R bk)
theorem ZT {st:Stmt} {r:List Stmt} (h:Ex1 C k fi σ st .next σ₁) (h2:ExX C k fi σ₁ r σ'):ExX C k fi σ (st :: r) σ':=by
  intro fd W s Q E ok R bk
  refine wpAny_execs_cons (h fd W s _ E ok R fun W1 v1 g1 t1 l1 R1 V1=>?_)
  apply FRel.next_e V1
  exact h2 fd W1 _ Q E ok R1 fun e h' tk' ra=>bk e h' tk' (ra.le l1)
theorem RaisedS.news {base G:Heap} {l:List Env} {e t:Addr} {cls:Value} {vs:List Value} {news news':List (Addr × Obj)} {h:Heap} (R:RaisedS base G l e cls t vs news h) (hn:∀ q ∈ news',q ∈ news):RaisedS base G l e cls t vs news' h:=by
  obtain ⟨⟨B,hB,hBG,hl,r⟩,ht⟩:=R
  exact ⟨⟨B,hB,hBG,fun q hq=>hl q (hn q hq),r⟩,ht⟩
theorem Zlo {W:Wd} {n:Nat} {h:Heap}:∀ q ∈ (W.cut n).led h,q ∈ W.led h:=fun q hq=>by
  rcases List.mem_append.mp hq with hq | hq
  . refine List.mem_append_left _ ?_
    refine e1a1 (List.mem_map.mp hq) fun a ha hqa=>?_; subst hqa
    exact List.mem_map.mpr ⟨a,List.mem_of_mem_take ha,rfl⟩
  . exact List.mem_append_right _ hq
theorem Za6 {env:Env} {outer:List Env} {L b:Addr} (hf:env.frame = some L) (hm:b ∈ (env :: outer).filterMap (·.frame)):b = L ∨ b ∈ outer.filterMap (·.frame):=by
  refine e1a1 (List.mem_filterMap.mp hm) fun en he hfr=>?_
  rcases List.mem_cons.mp he with rfl | he
  . rw [hf] at hfr; exact .inl (Option.some.inj hfr).symm
  . exact .inr (List.mem_filterMap.mpr ⟨en,he,hfr⟩)
theorem Zi3 {M:Model} {fd:Fd} {fi:Fi} {G:Heap} {m:Str -> Option Value} {e t:Addr} {cls:Value} {vs:List Value} {news:List (Addr × Obj)} {s':Shared} {Q:Unit -> Shared -> Prop} {E:Value -> Shared -> Prop} (F:Fr fd.b fd.L G m) (R:RaisedS fd.base G (fd.env fi :: fd.outer) e cls t vs news s'.heap) (hsm:G.UpToSlots s'.heap)
    (hQ:∀ h',RaisedS fd.base fd.b fd.outer e cls t vs news h' -> fd.b.UpToSlots h' -> Q () { s' with heap:=h' }):wpAny M (fd.A fi) (leaving (fd.env fi) (.ref e)) Q E s':=by
  obtain ⟨⟨B,hB,hBG,hl,hfl,hnew⟩,htup⟩:=R
  exact wpAny_leaves_onW rfl rfl hfl fun h' x1 x2=>
    hQ h' ⟨⟨B,hB,fun b o q nm=>hBG b o (F.keep b o q) (fun hm=>by
      rcases Za6 (L:=fd.L) rfl hm with z | z
      . rw [z,kts_self F] at q
        exact nse q
      . exact nm z),fun q hq=>⟨(hl q hq).1,kts_none F.keep (hl q hq).2.1,(hl q hq).2.2⟩,x1,hnew⟩,htup.of_slots x2⟩ ((Heap.UpToSlots.of_keeps F.keep).trans (hsm.trans x2))
theorem ZhD {fd:Fd} {fi:Fi} {h:Heap} {m:Str -> Option Value} (K:Below fd.A₀ fd.base fd.outer fd.b) (F:Fr fd.b fd.L h m) (hk:fi.cs.kind = .function):h.FunFrames fd.base (fd.env fi :: fd.outer):=by
  refine e3a2 F.ns fun o es ep ho hd _=>?_
  refine ⟨(by show fi.cs.kind ≠ .module; rw [hk]; intro e; cases e),⟨fd.L,o,rfl,?_,ho,(fun vs q=>by rw [hd] at q; cases q)⟩,K.frames.of_keeps fun b o hb _=>⟨o,F.keep b o hb,rfl⟩⟩
  cases q:fd.base.get? fd.L with
  | none=>rfl
  | some o=>have:=K.stays _ _ q; rw [kts_self F] at this; exact nse this
theorem Zgg {M:Model} {fd:Fd} {fi:Fi} {h:Heap} {m:Str -> Option Value} {e t:Addr} {cls:Value} {vs:List Value} {ws:Array Value} {oe:Obj} {news:List (Addr × Obj)} {s':Shared} {Q:Unit -> Shared -> Prop} {E:Value -> Shared -> Prop} (K:Below fd.A₀ fd.base fd.outer fd.b) (F:Fr fd.b fd.L h m) (hk:fi.cs.kind = .function) (N:News fd.b fd.L h news)
    (keeps:∀ b o,h.get? b = some o -> s'.heap.get? b = some o) (hn:h.get? e = none) (he:s'.heap.get? e = some oe) (hc:oe.cls = cls) (hd:oe.data = .fields ws) (h0:ws[0]? = some (.ref t)) (h1:ws[1]? = some .none) (htn:h.get? t = none) (ht:s'.heap.TupAt t vs)
    (hQ:∀ h',RaisedS fd.base fd.b fd.outer e cls t vs news h' -> fd.b.UpToSlots h' -> Q () { s' with heap:=h' }):wpAny M (fd.A fi) (leaving (fd.env fi) (.ref e)) Q E s':=by
  have fr:=ZhD K F hk
  have stays:fd.base.StaysIn h:=fun b o q=>F.keep b o (K.stays b o q)
  have hin:∀ env ∈ (fd.env fi :: fd.outer),∀ b,env.frame = some b -> b ∈ (fd.env fi :: fd.outer).filterMap (·.frame):=fun env he b hb=>List.mem_filterMap.mpr ⟨env,he,hb⟩
  have st:fd.base.StaysIn (hideAll h ((fd.env fi :: fd.outer).filterMap (·.frame))):=fun b o q=>hideAll_get _ (stays b o q) fun hm=>by
    rw [(fr.mem hm).1] at q; exact nse q
  have sg:∀ b o,fd.b.get? b = some o -> b ∉ fd.outer.filterMap (·.frame) -> (hideAll h ((fd.env fi :: fd.outer).filterMap (·.frame))).get? b = some o:=fun b o q nm=>hideAll_get _ (F.keep b o q) fun hm=>by
    rcases Za6 (L:=fd.L) rfl hm with z | z
    . rw [z,kts_self F] at q
      exact nse q
    . exact nm z
  have hl:∀ q ∈ news,(hideAll h ((fd.env fi :: fd.outer).filterMap (·.frame))).get? q.1 = some q.2 /\ fd.b.get? q.1 = none /\ fd.base.get? q.1 = none:=fun q hq=>by
    refine ⟨hideAll_get _ (N q hq).1 fun hm=>?_,(N q hq).2.2,fresh_of_stays K.stays (N q hq).2.2⟩
    rcases Za6 (L:=fd.L) rfl hm with z | z
    . exact (N q hq).2.1 z
    . refine e1a1 ((K.frames.mem z).2) fun o ho _=>?_
      rw [(N q hq).2.2] at ho; exact nse ho
  have hid:∀ b,h.get? b = none -> (hideAll h ((fd.env fi :: fd.outer).filterMap (·.frame))).get? b = none:=fun b q=>by
    cases z:(hideAll h ((fd.env fi :: fd.outer).filterMap (·.frame))).get? b with
    | none=>rfl
    | some o=>have:=of_hideAll _ z; rw [q] at this; exact nse this
  subst hc
  refine wpAny_leaving_firstW (base:=hideAll h ((fd.env fi :: fd.outer).filterMap (·.frame))) (a0:=.ref t) rfl ((funFrames_hide fr hin).of_keeps fun b o hb _=>⟨o,keeps b o hb,rfl⟩) rfl he (fun b o hb=>keeps b o (of_hideAll _ hb)) (hid e hn) hd h1 h0 fun h' hL=>?_
  obtain ⟨k1,⟨_,_,k2⟩,k3,k4⟩:=hL
  exact hQ h' ⟨⟨_,st,sg,hl,⟨k1,hid e hn,k2,k3⟩,hid t htn⟩,ht.of_slots k4⟩ (((Heap.UpToSlots.of_keeps F.keep).trans (Heap.UpToSlots.of_keeps keeps)).trans k4)
noncomputable def Md (C:Cx) (fd:Fd) (W:Wd) (σ:St) (e:Addr) (h':Heap):Prop:=
  ∃ (W₁:Wd) (h₁:Heap) (t:Addr) (oe:Obj) (ws:Array Value) (vs:List Value),W.le W₁ ∧ Rl fd W₁ σ h₁ ∧ (∀ b o,h₁.get? b = some o → h'.get? b = some o) ∧ h₁.get? e = none ∧ h'.get? e = some oe ∧ oe.cls = .ref (ga C.K "MachineError") ∧ oe.data = .fields ws ∧ ws[0]? = some (.ref t) ∧ ws[1]? = some .none ∧ h₁.get? t = none ∧ h'.TupAt t vs
noncomputable def ExM (C:Cx) (k:Nat) (fi:Fi) (σ:St) (ss:List Stmt) (σ':St):Prop:=
  ∀ (fd:Fd) (W:Wd) (s:Shared) (Q:Flow -> Shared -> Prop) (E:Value -> Shared -> Prop),OkF C k fi fd -> Rl fd W σ s.heap -> (∀ e h' tk',Md C fd W σ' e h' -> E (.ref e) { s with heap:=h',toks:=tk' }) -> wpAny C.M (fd.A fi) (execs ss (fd.ev fi)) Q E s
theorem ZmB {t:Expr} {x y r:List Stmt} {pos:Pos} {c:Bool} (h:Ts C k fi σ t c σ₁) (hc:c = true) (h2:ExM C k fi σ₁ x σ'):ExM C k fi σ (.If t x y pos :: r) σ':=by
  subst hc
  intro fd W s Q E ok R bk
  refine wpAny_execs_cons (wpAny_If (h fd W s _ E ok R fun W1 v1 g1 t1 l1 R1 V1=>?_))
  subst V1
  simp only [if_true]
  exact h2 fd W1 _ _ E ok R1 fun e h' tk' ⟨W₁,h₁,t,oe,ws,vs,l2,rest⟩=>bk e h' tk' ⟨W₁,h₁,t,oe,ws,vs,l1.trans l2,rest⟩
theorem RelF.bare {fd:Fd} {W:Wd} {σ:St} {h:Heap} {H:List AObj} (R:RelF fd W σ h) (hH:σ.H = H):RelF fd W ⟨[],[],H,none,[]⟩ h:=by
  subst hH
  refine e1a1 R.fr fun m F _=>?_
  exact ⟨⟨m,F,fun x v e=>by exact nse e⟩,R.len,R.nd,R.obj,R.frz,(fun x i e=>by exact nse e),(fun i e=>by exact nse e),(fun x i e=>by exact nse e),R.dn⟩
theorem ZeA {f:Addr} {oc:Value} {od:Option Addr} {osl:Array (Option Value)} {name qual:Str} {params:Arguments} {body:List Stmt} {scope:Scope} {dV kV doc pm cdv ct:Value} {an:Option Addr} {names:List Str} {args:List PV}
    {H:List AObj} {loc:List (Str × PV)}
    (ho:C.K.lookup f = some ⟨oc,od,.func (fnOf name qual params body scope dV kV doc pm an cdv ct),osl⟩) (hcd:codeIn C.K cdv qual = true)
    (hb:∀ (s:Shared) (vs:List Value),C.K.In s.heap -> vs.length = args.length -> BindsTo s (fnOf name qual params body scope dV kV doc pm an cdv ct) ⟨vs,[]⟩ (names.zip vs))
    (hnm:∀ x ∈ names,scope.names.lookup x = some .local)
    (hcell:∀ x ∈ scope.names,x.2 ≠ .cell) (hco:scope.isCoroutine = false) (hgen:scope.isGenerator = false) (hk:scope.kind = .function)
    (hloc:loc = (names.zip args).reverse)
    (hmain:∀ (fd:Fd) (W:Wd) (s:Shared) (Q:Flow -> Shared -> Prop) (E:Value -> Shared -> Prop),OkF C k ⟨qual,scope,f,cdv,none⟩ fd -> Rl fd W ⟨loc,[],H,none,[]⟩ s.heap ->
      (∀ (e:Addr) (h':Heap) (tk':Nat) (W₁:Wd) (h₁:Heap) (t:Addr) (vs:List Value),W.le W₁ -> Rl fd W₁ ⟨[],[],H,none,[]⟩ h₁ ->
        (∀ (Q:Unit → Shared → Prop) (E:Value → Shared → Prop) (s':Shared),s'.heap = h' → (∀ h'',RaisedS fd.base fd.b fd.outer e (.ref (ga C.K "MachineError")) t vs (W₁.led h₁) h'' → fd.b.UpToSlots h'' → Q () { s' with heap:=h'' }) → wpAny C.M (fd.A ⟨qual,scope,f,cdv,none⟩) (leaving (fd.env ⟨qual,scope,f,cdv,none⟩) (.ref e)) Q E s') → E (.ref e) { s with heap:=h',toks:=tk' }) →
      wpAny C.M (fd.A ⟨qual,scope,f,cdv,none⟩) (execs body (fd.ev ⟨qual,scope,f,cdv,none⟩)) Q E s):Zb1 C (k + 1) (.ref f) args H:=by
  intro fi loc₀ cm ci cc fd W s vs Q E ok R V bk
  refine e1a1 R.fr fun m F lc=>?_
  have X:=ok.X
  have T:=ok.T
  have hvl:vs.length = args.length:=(VRels.length V).symm
  refine e0a2 (Zdm ok R F (fi':=⟨qual,scope,f,cdv,none⟩) hk rfl []) fun ok' FG st=>?_
  refine wpAny_call ?_
  refine codeAny_call_def (fd:=fnOf name qual params body scope dV kV doc pm an cdv ct) (body:=body) (binds:=names.zip vs) (by have:=ok.dp; show fd.dp < recursionLimit; unfold recursionLimit; lia) ((X.keeps F.keep) _ _ ho) rfl (T.nolimit.keeps F.keep) (codeRec_of (X.keeps F.keep) hcd) rfl (hb s vs (X.keeps F.keep) hvl) hcell (fun y hy=>hnm _ (List.of_mem_zip (show (y.1,y.2) ∈ names.zip vs from hy)).1) (fun h₁ hns hk₁=>?_) hco hgen hk
  have LR:LRel W loc ((names.zip vs).reverse):=by
    subst hloc; exact LRel.reverse (LRel.zip V names)
  have F₁:Fr (hideAll s.heap W.adr) s.heap.objs.size h₁ (fun y=>(names.zip vs).reverse.lookup y):=⟨hns,fun a o e=>hk₁ a o (of_hideAll _ e),Nat.le_of_eq (hideAll_size _ _)⟩
  have R₁:Rl (fd.inner fi s.heap W.adr []) W ⟨loc,[],H,none,[]⟩ h₁:=
    RelF.carry R (fd':=fd.inner fi s.heap W.adr []) F₁ (fun x v e=>LR.lookup e) (ZcZ R hk₁) (fun x i e=>by exact nse e) (fun i e=>by exact nse e) (fun x i e=>by exact nse e)
  refine hmain (fd.inner fi s.heap W.adr []) W { s with heap:=h₁,toks:=_ } _ _ ok' R₁ (fun e h' tk' W₁ h₂ t ws lW R₂ hlv=>?_)
  refine hlv _ _ { s with heap:=h',toks:=tk' } rfl (fun h'' RS U=>?_)
  have lc1:W.le (W₁.cut H.length):=Wd.le_cut lW (by rw [R.len]; exact Nat.le_refl _)
  have Rc:=RelF.cut R₂ (n:=H.length) (H':=H) (loc':=[]) (cm':=[]) List.take_length rfl (ci':=none) (cc':=[]) (ZjN R) (fun x v e=>by exact nse e) (fun x i e=>by exact nse e) (fun i e=>by exact nse e) (fun x i e=>by exact nse e)
  have Rb:=Zc0 ok R F lc (fi':=⟨qual,scope,f,cdv,none⟩) Rc lc1 hk rfl
  exact bk e h'' tk' ⟨_,m,W₁.cut H.length,h₂,t,ws,lc1,FG,fun x v e=>by refine e1a1 (lc x v e) fun v' q1 q2=>?_; exact ⟨v',q1,VRel.mono lc1 q2⟩,Rb,RaisedS.news RS Zlo,U⟩
theorem fnX {a:Addr} {d:FD} {names:List Str} {args:List PV} {H:List AObj} {loc:List (Str × PV)} {σ':St} (F:Fnc C.K a d) (hp:ZN d names = true) (hb:∀ vs:List Value,vs.length = args.length -> Bd d vs (names.zip vs)) (hloc:loc = (names.zip args).reverse)
    (hmain:ExX C k ⟨d.qual,d.scope,a,(ZL C.K a).code,none⟩ ⟨loc,[],H,none,[]⟩ d.body σ') (hH:σ'.H = H):Zb1 C (k + 1) (.ref a) args H:=by
  have hp0:=Bool.and_eq_true_iff.mp hp
  have hp1:=hp0.1
  simp only [ZaW,Bool.and_eq_true,Bool.not_eq_true',beq_iff_eq] at hp1
  obtain ⟨⟨⟨⟨p1,p2⟩,p3⟩,p4⟩,p5⟩:=hp1
  refine ZeA F.obj F.code (fun s vs _ h=>BindsTo.of_eq (Zcv F hp0.2 (hb vs h))) (fun x hx=>?_) (fun x hx=>?_) p3 p4 p5 hloc fun fd W s Q E ok R bk=>?_
  . exact beq_iff_eq.mp (List.all_eq_true.mp p1 x hx)
  . exact bne_iff_ne.mp (List.all_eq_true.mp p2 x hx)
  . refine hmain fd W s Q E ok R fun e h' tk' ra=>?_
    obtain ⟨G,m,W₁,h₁,t,vs,l1,F',lc',R₁,RS,U⟩:=ra
    exact bk e h' tk' W₁ h₁ t vs l1 (R₁.bare hH) fun Q E s' hs hq=>by
      subst hs
      exact Zi3 F' RS U hq
theorem fnM {a:Addr} {d:FD} {names:List Str} {args:List PV} {H:List AObj} {loc:List (Str × PV)} {σ':St} (F:Fnc C.K a d) (hp:ZN d names = true) (hb:∀ vs:List Value,vs.length = args.length -> Bd d vs (names.zip vs)) (hloc:loc = (names.zip args).reverse)
    (hmain:ExM C k ⟨d.qual,d.scope,a,(ZL C.K a).code,none⟩ ⟨loc,[],H,none,[]⟩ d.body σ') (hH:σ'.H = H):Zb1 C (k + 1) (.ref a) args H:=by
  have hp0:=Bool.and_eq_true_iff.mp hp
  have hp1:=hp0.1
  simp only [ZaW,Bool.and_eq_true,Bool.not_eq_true',beq_iff_eq] at hp1
  obtain ⟨⟨⟨⟨p1,p2⟩,p3⟩,p4⟩,p5⟩:=hp1
  refine ZeA F.obj F.code (fun s vs _ h=>BindsTo.of_eq (Zcv F hp0.2 (hb vs h))) (fun x hx=>?_) (fun x hx=>?_) p3 p4 p5 hloc fun fd W s Q E ok R bk=>?_
  . exact beq_iff_eq.mp (List.all_eq_true.mp p1 x hx)
  . exact bne_iff_ne.mp (List.all_eq_true.mp p2 x hx)
  . refine hmain fd W s Q E ok R fun e h' tk' md=>?_
    obtain ⟨W₁,h₁,t,oe,ws,vs,l1,R₁,keeps,hn,he,hc,hd,h0,h1,htn,ht⟩:=md
    exact bk e h' tk' W₁ h₁ t vs l1 (R₁.bare hH) fun Q E s' hs hq=>by
      subst hs
      refine e1a1 R₁.fr fun m F' _=>?_
      exact Zgg ok.B F' ok.kf R₁.news keeps hn he hc hd h0 h1 htn ht hq
end
structure KX (K:Frag):Prop where
  exc:ktsIn K (ga K "MachineError") "BaseException" = true
section
variable {C:Cx} {k:Nat} {fi:Fi} {σ σ₁ σ₂ σ':St}
theorem Zmv {body:List Stmt} {h₀:ExceptHandler} {hs:List ExceptHandler} {pos:Pos} {o:Out} (h:Ex C k fi σ body o σ'):Ex1 C k fi σ (.Try body (h₀ :: hs) [] [] pos) o σ':=by
  intro fd W s Q E ok R bk
  refine wpAny_Try_except (h fd W s _ _ ok R fun W1 f1 g1 t1 l1 R1 V1=>?_)
  cases V1 with
  | next=>exact wpAny_execs_nil (bk W1 _ g1 t1 l1 R1 .next)
  | cont=>exact bk W1 _ g1 t1 l1 R1 .cont
  | brk=>exact bk W1 _ g1 t1 l1 R1 .brk
  | ret r=>exact bk W1 _ g1 t1 l1 R1 (.ret r)
theorem RelF.hd' {fd:Fd} {W:Wd} {σ:St} {h:Heap} (R:RelF fd W σ h) (x:Option Value):RelF { fd with hd:=x } W σ h:=⟨R.fr,R.len,R.nd,R.obj,R.frz,R.cel,R.cen,R.cec,R.dn⟩
theorem RelF.hd_back {fd:Fd} {W:Wd} {σ:St} {h:Heap} {x:Option Value} (R:RelF { fd with hd:=x } W σ h):RelF fd W σ h:=⟨R.fr,R.len,R.nd,R.obj,R.frz,R.cel,R.cen,R.cec,R.dn⟩
theorem Zmu (G:KF C.K) (GX:KX C.K) {body suite:List Stmt} {b₀:Stmt} {hs:List ExceptHandler} {np hp pos:Pos} {o:Out} (hcmp:fi.cmp = none) (hk:(kd fi).lookup (Str.ofString "MachineError") = some .globalImplicit) (h:ExX C 61 fi σ body σ₁) (h2:Ex C 0 fi σ₁ (b₀ :: suite) o σ') :
    Ex1 C 61 fi σ (.Try body (.ExceptHandler (some (.Name (Str.ofString "MachineError") np)) none (b₀ :: suite) hp :: hs) [] [] pos) o σ':=by
  intro fd W s Q E ok R bk
  have hout:fd.outer = []:=by
    rcases ok.ho with e | e
    . lia
    . exact e.2
  have hhd:fd.hd = none:=by
    rcases ok.hn with e | e
    . exact e
    . cases e
  refine wpAny_Try_except (h fd W s _ _ ok R fun e h' tk' ra=>?_)
  obtain ⟨Gh,m,W₁,h₁,t,vs,l1,F,lc,R₁,RS,U⟩:=ra
  obtain ⟨⟨B,hB,hBG,hl,hfl,hnew⟩,htup⟩:=RS
  have hfl:Heap.FlyingW B (fd.env fi :: fd.outer) e (.ref (ga C.K "MachineError")) (.ref t) h':=hfl
  have hL:B.get? fd.L = none:=by
    obtain ⟨_,⟨L',_,hf,hn',_⟩,_⟩:=hfl.2.2.1
    obtain rfl:fd.L = L':=Option.some.inj hf
    exact hn'
  have hev:fd.ev fi = fd.env fi:=Zar hcmp
  have back:∀ h₆:Heap,B.StaysIn h₆ -> Gh.UpToSlots h₆ -> Rl fd W₁ σ₁ h₆:=fun h₆ k1 k2=>by
    have F₆:Fr fd.b fd.L h₆ m:=⟨k2.ns F.ns,fun b ob eb=>k1 _ _ (hBG b ob (F.keep b ob eb) (fun hm=>by
      rcases Za6 (L:=fd.L) rfl hm with z | z
      . rw [z,kts_self F] at eb; exact nse eb
      . rw [hout] at z; cases z)),F.above⟩
    exact R₁.carry F₆ lc (fun p hp=>⟨k1 _ _ (hl p hp).1,(fun z=>by have:=(hl p hp).1; rw [z,hL] at this; exact nse this),kts_none F.keep (hl p hp).2.1⟩) R₁.cel R₁.cen R₁.cec
  show wpAny C.M (fd.A fi) (noteFrame (.ref e) (fd.ev fi)) _ _ _
  rw [hev]
  refine wpAny_looks_onW (outer:=fd.outer) rfl rfl hfl fun h₄ hheld₄ hsm₄=>?_
  refine wpAny_landsW hheld₄ fun h₅ hheld hsm₅'=>?_
  have hsm₅:=hsm₄.trans hsm₅'
  have R₅:=back h₅ hheld.1 (U.trans hsm₅)
  refine e1a1 hheld.there fun ob hob hobc=>?_
  let fdh:Fd:={ fd with hd:=some (.ref e) }
  have hA:∀ cmp',((fd.A { fi with cmp:=cmp' }).mark (some (.ref e))) = fdh.A { fi with cmp:=cmp' }:=fun _=>rfl
  have okh:OkF C 0 fi fdh:=⟨ok.B,ok.X,ok.T,ok.kf,ok.kc,.inr rfl,by have:=ok.dp; show fd.dp + 10 * 0 < 990; lia,by have:=ok.un; show fd.un + 100 * 0 < 9000; lia,.inl (by lia)⟩
  obtain ⟨nm,q',N,bs,bm,hdct,sn,sub,ab,col,dd,k0,k1,k2,k3,k5,newId,hC,hbase,_⟩:=kts_cls ok.X GX.exc
  have R₅h:Rl fdh W₁ σ₁ h₅:=R₅.hd' _
  refine e1a1 R₅.fr fun m₅ F₅ _=>?_
  have hC₅:=F₅.keep _ _ hC
  refine wpAny_handleBy_cons (codeAny_handlers_test ?_) (by intro q; cases q)
  have T5:=topRead_of ok.T
  have g5:(fd.env fi).globals = mainGlobals:=rfl
  have hvv:nsIn C.K mainGlobals (Str.ofString "MachineError") = some (some (.ref (ga C.K "MachineError"))):=ok_g G.ok (by kernel_rfl)
  refine Name_function_global (env:=fd.env fi) ok.kf (by rw [<- hev]; exact kindOf_ev.trans hk) ?_ (by kernel_rfl)
  refine loadGlobal_global (env:=fd.env fi) (mg:=C.mg) (by rw [g5]; exact T5.g.keeps F₅.keep) (mg_of ok.X T5.g hvv) ?_
  refine wpAny_excMatches_sub_self hC₅ hob hobc hbase (codeAny_handlers_suite ?_)
  refine lands_againW hheld fun h₆ hfl₆ hsm₆=>?_
  have R₆:Rl fdh W₁ σ₁ h₆:=(back h₆ hfl₆.1 ((U.trans hsm₅).trans hsm₆)).hd' _
  have z:=h2 fdh W₁ { s with heap:=h₆,toks:=tk' }
  have z:∀ (Q:Flow -> Shared -> Prop) (E:Value -> Shared -> Prop),OkF C 0 fi fdh -> Rl fdh W₁ σ₁ h₆ -> Bk fdh W₁ σ' { s with heap:=h₆,toks:=tk' } (fun W x=>FRel W o x) Q -> wpAny C.M (fdh.A fi) (execs (b₀ :: suite) (fdh.ev fi)) Q E { s with heap:=h₆,toks:=tk' }:=z
  have hevh:fdh.ev fi = fd.env fi:=Zar hcmp
  rw [hevh] at z
  exact z _ _ okh R₆ fun W₇ f₇ h₇ tk₇ l₇ R₇ V₇=>bk W₇ f₇ h₇ tk₇ (l1.trans l₇) R₇.hd_back V₇
end
section
open Sem (wp)
structure EC where
  nm:Str
  q:Str
  N:Addr
  bs:List Value
  sn:List Str
  sub:List Value
  ab:Bool
  col:Option Bool
  dd:Option Addr
  k0:Option Value
  k1:Option Value
  k2:Option Value
  k3:Option Value
  k5:Option Value
noncomputable abbrev EC.o (Y:EC) (C:Addr) (bm:List Value) (hdct:Bool) (newId:String):Obj:=excClassObj Y.nm Y.q C Y.N Y.bs bm hdct Y.sn Y.sub Y.ab Y.col Y.dd Y.k0 Y.k1 Y.k2 Y.k3 Y.k5 newId
structure OwnX (bm bmB:List Value):Prop where
  exc:bm.contains (.type "Exception") = true
  noAttr:bm.contains (.type "AttributeError") = false
  noName:bm.contains (.type "NameError") = false
theorem Zlw (C:Addr) {bm bmB:List Value} (T:OwnX bm bmB):(Value.ref C :: bm).contains (.type "Exception") = true:=by rw [List.contains_cons,T.exc,Bool.or_true]
section
variable {prog:Program} {w:World} {A:Around} {E:Value -> Shared -> Prop} {h:Heap} {g:Array GenState} {d:Drawn} {t:Nat} {os:OsState} {bm bmB:List Value}
variable {Y:EC} {C:Addr} {hdct:Bool}
theorem Zdf {M:Model} (T:OwnX bm bmB) {rest:List Value} {Q:Unit → Shared → Prop} (hC:h.get? C = some (Y.o C bm hdct "Exception.__new__")) (hq:Q () ⟨h,g,d,t,os⟩) :
    wpAny M A (checkBuiltinCall "Exception.__new__" ⟨.ref C :: rest,[]⟩) Q E ⟨h,g,d,t,os⟩:=by
  have F:=PySem.F.excBase_Exception
  have hcont:=Zlw C T
  have hstar:=F.noStar
  simp only [checkBuiltinCall,F.newKind,F.newSplit,F.newRow]
  repeat (first | refine wpAny_loadPart_at hC ?_ | (refine wpAny_isSubtype_exc hC ?_; rw [hcont]) | refine wpAny_staticBase_exc hC ?_ | refine wpAny_madeBy_exc hC ?_ | simp only [bne_self_eq_false,Bool.false_eq_true,if_false] | wp_step)
  exact hq
theorem Zlf {R:Result → Shared → Prop} (T:OwnX bm bmB) {rest:List Value} (hC:h.get? C = some (Y.o C bm hdct "Exception.__new__"))
    (hq:R (.ok (.ret (.ref (h.objs.size + 1)))) ⟨(h.push { cls:=.type "tuple", data:=.seq rest.toArray }).push { cls:=.ref C,data:=.fields #[.ref h.objs.size,.none,.none,.none,.bool false,.none] },g,d,t,os⟩) (hrest:rest.length ≤ sizeLine) :
    codeAny (model prog w) A (.builtin "Exception.__new__" ⟨.ref C :: rest,[]⟩) R ⟨h,g,d,t,os⟩:=by
  have F:=PySem.F.excBase_Exception
  have hends:=F.ends
  have hcB:=Zlw C T
  have hcA:(Value.ref C :: bm).contains (.type "AttributeError") = false:=by rw [List.contains_cons,T.noAttr]; rfl
  have hcN:(Value.ref C :: bm).contains (.type "NameError") = false:=by rw [List.contains_cons,T.noName]; rfl
  refine codeAny_builtinAt F.entry ?_
  unfold Builtin.«BaseException.__new__»
  refine PySem.wpAt_bind ?_
  show PySem.wpAt _ _ _ (stack >>= _) _ _ _
  refine PySem.wpAt_bind (PySem.wpAt_stack fun p below=>PySem.wpAt_of_wpAny ?_)
  wp_walk
  refine PySem.wpAt_of_wpAny ?_
  rw [F.owner]
  repeat (first | with_reducible refine wpAny_madeHere_exc F.canon hC ?_ | with_reducible refine wpAny_loadPart_at hC ?_ | (with_reducible refine wpAny_isSubtype_exc hC ?_; first | rw [hcB] | rw [hcA] | rw [hcN]) | wp_step)
  show R _ _
  rw [Heap.size_push]
  exact hq
structure Zmm (h:Heap) (C fI:Addr) (bm:List Value):Prop where
  there:∃ (Y:EC) (hdct:Bool) (mN:Str → Option Value),h.get? C = some (Y.o C bm hdct "Exception.__new__") ∧ h.Ns Y.N mN ∧ mN "__init__" = none ∧ hdct = true
  base:∃ M r c0 dd cd sl mM,bm = .ref M :: r ∧ h.get? M = some { cls:=c0,dict:=dd,data:=.cls cd,slots:=sl } ∧ h.Ns cd.ns mM ∧ mM "__init__" = some (.ref fI)
  fn:∃ o,h.get? fI = some o ∧ o.cls = .type "function"
theorem Zde (T:OwnX bm bmB) {fI:Addr} (O:Zmm h C fI bm) {rest:List Value} {Q:Fin -> Shared -> Prop}
    (hq:∀ h' e,Heap.MadeExcOf h h' e (.ref C) rest -> wpAny (model prog w) A (call (.ref fI) (.ref e :: rest)) (fun r s'=>r = .none /\ Q (.done (.ret (.ref e))) s') E ⟨h',g,d,t,os⟩) (hrest:rest.length <= sizeLine) :
    wpAny (model prog w) A (Builtin.«type.__call__» ⟨.ref C :: rest,[]⟩) Q E ⟨h,g,d,t,os⟩:=by
  have F:=PySem.F.excBase_Exception
  obtain ⟨⟨Y,hdct,mN,hC,hn,hni,_⟩,⟨M,r,c0,dd',cd,sl,mM,rfl,hM,hMn,hMi⟩,⟨oI,hfI,hfc⟩⟩:=O
  repeat (first | with_reducible refine wpAny_loadPart_at hC ?_ | with_reducible refine wpAny_madeBy_exc hC ?_ | wp_step)
  refine codeAny_call_builtin_code (Code.quiet_builtin _ F.quiet) (Zdf T hC ?_)
  refine Zlf T hC ?_ hrest
  show wpAny _ _ _ _ _ _
  have hk:∀ b o,h.get? b = some o → ((h.push { cls:=.type "tuple", data:=.seq rest.toArray }).push { cls:=.ref C,data:=.fields #[.ref h.objs.size,.none,.none,.none,.bool false,.none] }).get? b = some o:=fun b o e=>Heap.get?_push_of_some _ (Heap.get?_push_of_some _ e)
  have hC₁:=hk _ _ hC
  have hfI₁:=hk _ _ hfI
  have hget:((h.push { cls:=.type "tuple", data:=.seq rest.toArray }).push { cls:=.ref C,data:=.fields #[.ref h.objs.size,.none,.none,.none,.bool false,.none] }).get? (h.objs.size + 1) = some
      { cls:=.ref C,data:=.fields #[.ref h.objs.size,.none,.none,.none,.bool false,.none] }:=by heap_get
  have hcC:(Value.ref C :: Value.ref M :: r).contains (.ref C) = true:=by simp
  unfold isInstance
  repeat (first | with_reducible refine wpAny_loadPart_at hget ?_ | (with_reducible refine wpAny_isSubtype_exc hC₁ ?_; rw [hcC]) | wp_step)
  show wpAny _ _ (typeLookup (.ref C) _) _ _ _
  rw [typeLookup_eq]
  refine wpAny_bind (wpAny_mroOf_exc hC₁ ?_)
  rw [lookupAlong_cons]
  refine wpAny_bind (wpAny_classOwn_exc hC₁ (hn.keeps hk) ?_)
  rw [hni,lookupAlong_cons]
  refine wpAny_bind (wpAny_classOwn_cls (hk _ _ hM) (hMn.keeps hk) ?_)
  rw [hMi]
  refine wpAny_pure ?_
  refine wpAny_holding (wpAny_bind ?_)
  unfold bindSpecial
  refine wpAny_bind (wpAny_typeOf (T := "function") ⟨_,hfI₁,hfc⟩ ?_)
  rw [if_pos (by decide)]
  refine wpAny_pure (wpAny_bind (wpAny_mono (hq _ (h.objs.size + 1) ⟨hk,Heap.get?_none_of_le (Nat.le_succ _),h.objs.size,hget,Heap.get?_none_of_le (Nat.le_refl _),?_⟩) (fun r s' hr=>?_) fun _ _ x=>x))
  . exact Heap.get?_push_of_some _ (Heap.get?_push_at rfl rfl)
  . refine e0a1 hr fun hqa hQ=>?_; subst hqa
    wp_walk
    exact hQ
theorem ZiY (T:OwnX bm bmB) {fI:Addr} (O:Zmm h C fI bm) {rest:List Value} {Q:Value -> Shared -> Prop}
    (hq:∀ h' e,Heap.MadeExcOf h h' e (.ref C) rest → wpAny (model prog w) (A.under (.builtin "type.__call__" ⟨.ref C :: rest,[]⟩)) (call (.ref fI) (.ref e :: rest)) (fun r s'=>r = .none ∧ Q (.ref e) s') E ⟨h',g,d,t,os⟩) (hrest:rest.length ≤ sizeLine) :
    wpAny (model prog w) A (call (.ref C) rest) Q E ⟨h,g,d,t,os⟩:=by
  refine e3a1 O.there fun Y hdct mN hC _=>?_
  have f1:=tc_lookup
  have f2:=tc_bind (.ref C)
  have hT:(⟨h,g,d,t,os⟩:Shared).TypeIs (.ref C) "type" := ⟨_,hC,rfl⟩
  refine wpAny_call (codeAny_of_tree ?_)
  show wpAny _ _ (callAny (.ref C) _) _ _ _
  repeat (any_goals (first | assumption | with_reducible refine wpAny_loadPart_at hC ?_ | wp_step))
  refine ⟨rfl,?_⟩
  refine codeAny_call_builtin_at (Code.quiet_builtin _ (by decide +kernel)) entry_typeCall (wpAny_check_type_call_sub hC (Zde T O (fun h' e hm=>?_) hrest))
  exact hq h' e hm
end
end
section
open Sem (wp)
section
variable {prog:Program} {w:World} {A:Around} {E:Value -> Shared -> Prop} {s:Shared} {K:Frag}
theorem Zjo {expr:Bool} {Q:Value → Shared → Prop} (X:K.In s.heap) (h:Q (.builtin "Exception.__init__") { s with toks:=s.toks + 1 }):wpAny (model prog w) A (getAttr (.type "Exception") "__init__" expr) Q E s:=by
  have ht:kitMeta "Exception" = true:=by decide +kernel
  have hs:Manifest.isStub "Exception" = false:=by decide +kernel
  have hstub:opaqueClassAbove (.type "Exception") = pure none:=by unfold opaqueClassAbove; dsimp only; rw [hs]; rfl
  have L0:Looks (model prog w) s.heap (typeOf (.type "Exception")) (.type "type"):=Looks.of_pure (kitMeta_of ht)
  have LO:Looks (model prog w) s.heap (opaqueClassAbove (.type "Exception")) none:=Looks.of_pure hstub
  have hg:findIn K (.type "type") "__getattribute__" = some (some (.builtin "type.__getattribute__")):=type_tga
  have e:findCls K (.type "Exception") (.type "type") "__init__" = some (.val (.builtin "Exception.__init__")):=by kernel_rfl
  refine cls_open X LO L0 hg (looks_hook X (r:=none) (by rfl)) (by show subIn K _ _ = _; rfl) e ?_
  exact wpAny_pure (handed_on rfl h)
theorem Zgl {pl:Sem Bool} {Q:Value × List Value → Shared → Prop} (X:K.In s.heap) (h:Q (.builtin "Exception.__init__", []) { s with toks:=s.toks + 1 }):wpAny (model prog w) A (getMethod (.type "Exception") "__init__" pl) Q E s:=by
  have ht:kitMeta "Exception" = true:=by decide +kernel
  have L0:Looks (model prog w) s.heap (typeOf (.type "Exception")) (.type "type"):=Looks.of_pure (kitMeta_of ht)
  have hg:Looks (model prog w) s.heap (specialOf (.type "Exception") "__getattribute__") (some (.builtin "type.__getattribute__")):=L0.andThen (looks_findIn X type_tga)
  unfold getMethod
  refine wpAny_bind (hg.here ?_)
  dsimp only
  rw [if_pos canon_tga]
  exact wpAny_bind (wpAny_mono (Zjo X h) (fun _ _ z=>wpAny_pure z) fun _ _ z=>z)
end
section
variable {prog:Program} {w:World} {A:Around} {E:Value -> Shared -> Prop} {h:Heap} {g:Array GenState} {d:Drawn} {t:Nat} {os:OsState} {bm bmB:List Value}
variable {Y:EC} {C:Addr} {hdct:Bool} {newId:String}
theorem ZcK {M:Model} (T:OwnX bm bmB) {e:Addr} {oe:Obj} {rest:List Value} {Q:Unit -> Shared -> Prop} (hC:h.get? C = some (Y.o C bm hdct newId)) (he:h.get? e = some oe) (hcls:oe.cls = .ref C) (hq:Q () ⟨h,g,d,t,os⟩) :
    wpAny M A (checkBuiltinCall "Exception.__init__" ⟨.ref e :: rest,[]⟩) Q E ⟨h,g,d,t,os⟩:=by
  have F:=PySem.F.excBase_Exception
  have hcB:=Zlw C T
  have hshort:=F.noStar
  simp only [checkBuiltinCall,F.initKind,F.initSplit,F.initRow]
  repeat (first | (with_reducible refine wpAny_loadPart_at he ?_; rw [hcls]) | with_reducible refine wpAny_loadPart_at hC ?_ | (with_reducible refine wpAny_isSubtype_exc hC ?_; rw [hcB]) | wp_step)
  refine wpAny_onRaise ?_
  rw [show ∀ (a b:String) (n:Nat),Bind.check ⟨.positional, "*", "Exception", .self,[⟨"args", .varPos,false⟩]⟩ a b n (List.map (fun x=>x.fst) ({ pos:=Value.ref e :: rest }:Args).kw) = pure () from
    fun a b n=>check_star_args _ _ _ _ _ _]
  exact wpAny_pure hq
theorem ZiX (T:OwnX bm bmB) {e t0:Addr} {rest:List Value} {Q:Value -> Shared -> Prop} (hC:h.get? C = some (Y.o C bm hdct newId)) (he:h.get? e = some { cls:=.ref C,data:=.fields #[.ref t0,.none,.none,.none,.bool false,.none] })
    (hrest:rest.length ≤ sizeLine) (hq:∀ h',(∀ b o,b ≠ e → h.get? b = some o → h'.get? b = some o) → (∃ t',h.get? t' = none ∧ h'.get? e = some { cls:=.ref C,data:=.fields #[.ref t',.none,.none,.none,.bool false,.none] } ∧ h'.get? t' = some { cls:=.type "tuple", data:=.seq rest.toArray }) → Q .none ⟨h',g,d,t,os⟩) :
    wpAny (model prog w) A (call (.builtin "Exception.__init__") (.ref e :: rest)) Q E ⟨h,g,d,t,os⟩:=by
  have F:=PySem.F.excBase_Exception
  refine wpAny_call (codeAny_call_builtin F.init.plain F.initEntry (ZcK T hC he rfl ?_))
  wp_walk
  refine hq _ (fun b o hne hb=>?_) ⟨h.objs.size,Heap.get?_none_of_le (Nat.le_refl _),?_,?_⟩
  . rw [Heap.get?_update_other _ _ (Ne.symm hne)]
    exact Heap.get?_push_of_some _ hb
  . rw [Heap.get?_update_self _ (Heap.get?_push_of_some _ he) rfl]
    rfl
  . rw [Heap.get?_update_other _ _ (Nat.ne_of_lt (Heap.lt_size he))]
    exact Heap.get?_push_at rfl rfl
end
end
section
open Sem (wp)
open PySem.Builtin PySem.Builtin.ObjectAttr
noncomputable def bmE:List Value:=[.type "Exception", .type "BaseException", .type "object"]
theorem Zga (self:Value):refuseLoop self "__setattr__" bmE = pure ():=by kernel_rfl
theorem ZnD:typeLookup (.type "Exception") "__setattr__" = pure (some (.builtin "object.__setattr__")):=by rw [typeLookup_type,builtinLookup_eq_fast]; kernel_rfl
section
variable {prog:Program} {w:World} {A:Around} {E:Value -> Shared -> Prop} {h:Heap} {g:Array GenState} {d:Drawn} {t:Nat} {os:OsState}
variable {Y:EC} {C x M:Addr} {dd':Option Addr} {newId:String}
  {mN mM mA:Str -> Option Value} {name:Str} {v c0:Value} {cd:ClassData} {sl:Array (Option Value)}
theorem Zfw {y:Option Value} {M':Model} {Q:Option Value -> Shared -> Prop} (hC:h.get? C = some (Y.o C (.ref M :: bmE) true newId)) (hn:h.Ns Y.N mN) (hna:mN name = none) (hM:h.get? M = some { cls:=c0,dict:=dd',data:=.cls cd,slots:=sl }) (hMn:h.Ns cd.ns mM) (hma:mM name = none)
    (hB:typeLookup (.type "Exception") name = pure y) (hq:Q y ⟨h,g,d,t,os⟩):wpAny M' A (typeLookup (.ref C) name) Q E ⟨h,g,d,t,os⟩:=by
  have F:=PySem.F.excBase_Exception
  have hrest:lookupAlong bmE name = pure y:=by rw [typeLookup_eq,F.mroIs] at hB; exact hB
  rw [typeLookup_eq]
  refine wpAny_bind (wpAny_mroOf_exc hC ?_)
  rw [lookupAlong_cons]
  refine wpAny_bind (wpAny_classOwn_exc hC hn ?_)
  rw [hna,lookupAlong_cons]
  refine wpAny_bind (wpAny_classOwn_cls hM hMn ?_)
  rw [hma,hrest]
  exact wpAny_pure hq
theorem ZdW {M':Model} {o:Obj} {nameV:Value} {Q:Unit -> Shared -> Prop} (hC:h.get? C = some (Y.o C (.ref M :: bmE) true newId)) (hx:h.get? x = some o) (hc:o.cls = .ref C) (hq:Q () ⟨h,g,d,t,os⟩) :
    wpAny M' A (checkBuiltinCall "object.__setattr__" ⟨[.ref x,nameV,v],[]⟩) Q E ⟨h,g,d,t,os⟩:=by
  have SF:=PySem.F.store_object
  have hcB:(Value.ref C :: Value.ref M :: bmE).contains (.type "object") = true:=by simp [bmE]
  have ha:=SF.args (.ref x) nameV v
  simp only [checkBuiltinCall,SF.kind,SF.split]
  refine wpAny_bind ?_
  unfold isInstance
  repeat (first | (with_reducible refine wpAny_loadPart_at hx ?_; rw [hc]) | (with_reducible refine wpAny_isSubtype_exc hC ?_; rw [hcB]) | wp_step)
  exact hq
theorem ZdV {Q:Unit → Shared → Prop} {ns:List Str} (hC:h.get? C = some (Y.o C (.ref M :: bmE) true newId)) (hn:h.Ns Y.N mN) (hns0:mN "__setattr__" = none) (hna:mN name = none) (hM:h.get? M = some { cls:=c0,dict:=dd',data:=.cls cd,slots:=sl }) (hMn:h.Ns cd.ns mM) (hms:mM "__setattr__" = none) (hma:mM name = none)
    (hB:typeLookup (.type "Exception") name = pure none) (I:h.Inst x C mA)
    (hq:∀ h' tk',h'.Inst x C (fun y=>if y = name then some v else mA y) ->
      (∀ b o,b ≠ x -> (∀ o₀ dx,h.get? x = some o₀ -> o₀.dict = some dx -> b ≠ dx) -> h.get? b = some o -> h'.get? b = some o) ->
      (∀ o₀,h.get? x = some o₀ -> ∃ o₁,h'.get? x = some o₁ /\ o₁.cls = o₀.cls /\ o₁.data = o₀.data /\ (∀ dx,o₀.dict = some dx -> o₁.dict = some dx) /\ (o₀.dict = none -> ∀ dx,o₁.dict = some dx -> h.get? dx = none)) -> Q () ⟨h',g,d,tk',os⟩) (hw:Within mA ns) (hsz:ns.length <= sizeLine) :
    wpAny (model prog w) A (setAttr (.ref x) name v) Q E ⟨h,g,d,t,os⟩:=by
  refine e1a3 I fun o hx hc hnc hd=>?_
  have SF:=PySem.F.store_object
  have f3:=SF.slot.bind (.ref x)
  have hpass:refuseLoop (.ref x) "__setattr__" (.ref C :: .ref M :: bmE) = pure ():=by rw [refuseLoop_ref,refuseLoop_ref,Zga]
  unfold setAttr callSpecial? specialOf
  repeat (any_goals (first | assumption | (with_reducible refine wpAny_loadPart_at hx ?_; rw [hc]) | (with_reducible refine Zfw hC hn hns0 hM hMn hms ZnD ?_) | wp_step))
  refine codeAny_call_builtin SF.slot.plain SF.entry (ZdW hC hx hc ?_)
  unfold Builtin.«object.__setattr__»
  repeat (first | rw [refuse_eq] | (rw [hpass]) | (with_reducible refine wpAny_loadPart_at hx ?_; rw [hc]) | with_reducible refine wpAny_mroOf_exc hC ?_ | (with_reducible refine Zfw hC hn hna hM hMn hma hB ?_) | wp_step)
  rcases hd with ⟨hdn,hmA⟩ | ⟨dx,hdx,hne,hns⟩
  ·
    rw [hdn,if_neg (by simp [typeHasDict])]
    split
    . rename_i hcd
      exact nse hcd
    split
    . rename_i c hcd
      exact absurd hcd (hnc c)
    . have hx₁:(h.push { cls:=.type "dict", data:=.dict #[] }).get? x = some o:=Heap.get?_push_of_some _ hx
      have hxs:x ≠ h.objs.size:=Nat.ne_of_lt (Heap.lt_size hx)
      refine wpAny_bind (wpAny_alloc' ?_)
      refine wpAny_bind (wpAny_update' hx₁ ?_)
      refine wpAny_pure ?_
      have hgd:((h.push { cls:=.type "dict", data:=.dict #[] }).update x fun o=>{ cls:=o.cls,dict:=some h.objs.size,data:=o.data,slots:=o.slots }).get? h.objs.size
          = some { cls:=.type "dict", data:=.dict #[] }:=
        (Heap.get?_update_ne _ _ _ _ hxs.symm).trans (Heap.get?_push_at rfl rfl)
      have hnd:((h.push { cls:=.type "dict", data:=.dict #[] }).update x fun o=>{ cls:=o.cls,dict:=some h.objs.size,data:=o.data,slots:=o.slots }).Ns h.objs.size (fun _=>none):=
        ⟨_,#[],_,hgd,rfl,fun e he=>absurd he (by simp),fun _=>rfl⟩
      show wpAny _ _ (storeInDict h.objs.size (.str name _) name v) _ _ _
      unfold storeInDict newKeyGuard
      refine wpAny_bind (wpAny_pure (wpAny_bind (wpAny_nsSet1 (Heap.Ns1.of_empty hnd) fun h' hn' hs=>?_)))
      refine e3a2 (hn'.count (Within.cons name v Within.nil)) fun oD esD epD hoD hdD hcD=>?_
      refine wpAny_bind (wpAny_lookBehind hoD (by rw [hdD]; exact pastItsLine_dict (Nat.le_trans hcD (by rw [List.length_cons,List.length_nil,sizeLine_eq]; lia))) ?_)
      wp_walk
      have hx':h'.get? x = some { cls:=o.cls,dict:=some h.objs.size,data:=o.data,slots:=o.slots }:=?_
      repeat (any_goals (first | assumption | wp_step))
      refine hq h' _ ⟨{ cls:=o.cls,dict:=some h.objs.size,data:=o.data,slots:=o.slots },hx',hc,hnc,.inr ⟨h.objs.size,rfl,hxs.symm,?_⟩⟩ (fun b ob hbx _ hb=>?_)
        (fun o₀ h₀=>by obtain rfl:o = o₀:=Option.some.inj (hx.symm.trans h₀); exact ⟨_,hx',rfl,rfl,(fun dx e=>by rw [hdn] at e; exact nse e),fun _ dx e=>by obtain rfl:=Option.some.inj e; exact Heap.get?_none_of_le (Nat.le_refl _)⟩)
      . refine e3a4 hn' fun o' es ep e1 e2 e3 eu e4=>?_
        exact ⟨o',es,ep,e1,e2,e3,eu,fun y=>by rw [e4 y]; by_cases hy:y = name <;> simp [hy,hmA]⟩
      . exact (hs.2 b (Nat.ne_of_lt (Heap.lt_size hb))).trans ((Heap.get?_update_ne _ _ _ _ hbx).trans (Heap.get?_push_of_some _ hb))
      . refine (hs.2 x hxs).trans (Heap.get?_update_self _ hx₁ ?_)
        have hfr:=(Heap.get?_some_iff.mp hx).2
        obtain ⟨oc,od,odt,osl⟩:=o
        cases odt <;> first | rfl | exact hfr
  ·
    rw [hdx]
    refine wpAny_pure ?_
    show wpAny _ _ (storeInDict dx (.str name _) name v) _ _ _
    unfold storeInDict newKeyGuard
    refine wpAny_bind (wpAny_pure (wpAny_bind (wpAny_nsSet1 hns fun h' hn' hs=>?_)))
    refine e3a2 (hn'.count (Within.cons name v hw)) fun oD esD epD hoD hdD hcD=>?_
    refine wpAny_bind (wpAny_lookBehind hoD (by rw [hdD]; exact pastItsLine_dict (Nat.le_trans hcD (by rw [List.length_cons]; lia))) ?_)
    wp_walk
    repeat (any_goals (first | assumption | wp_step))
    refine hq h' _ ⟨o,(hs.2 x hne.symm).trans hx,hc,hnc,.inr ⟨dx,hdx,hne,hn'⟩⟩ (fun b ob _ hbd hb=>?_)
      (fun o₀ h₀=>⟨o₀,(hs.2 x hne.symm).trans h₀,rfl,rfl,fun _ e=>e,fun e=>by
        obtain rfl:o = o₀:=Option.some.inj (hx.symm.trans h₀)
        rw [hdx] at e; exact nes e⟩)
    exact (hs.2 b (hbd o dx hx hdx)).trans hb
end
end
section
open Sem (wp)
theorem Zgd {K:Frag} {h:Heap} {N:Addr} {mg:Str -> Option Value} {n:Str} {v:Value} (X:K.In h) (G:h.Ns N mg) (e:nsIn K N n = some (some v)):mg n = some v:=by
  refine e3a3 G fun o es ep ho hd _ hf=>?_
  unfold nsIn at e
  split at e
  . rename_i c d es' n' sl q
    have:=X _ _ q
    rw [ho] at this
    obtain rfl:=Option.some.inj this
    cases hd
    split at e
    . rename_i en he
      rw [<- hf]
      unfold nsFind findBy
      rw [<- Array.find?_toList,he]
      simpa using e
    . split at e <;> cases e
  . exact nse e
structure Own2 (h:Heap) (Cc M fI:Addr):Prop where
  ex:∃ (Y:EC) (mN:Str → Option Value) (c0:Value) (dd':Option Addr) (cd:ClassData) (sl:Array (Option Value)) (mM:Str → Option Value),h.get? Cc = some (Y.o Cc (.ref M :: bmE) true "Exception.__new__") ∧ h.Ns Y.N mN ∧ mN "__init__" = none ∧ mN "__setattr__" = none ∧ mN "what" = none ∧ mN "at" = none ∧
    h.get? M = some { cls:=c0,dict:=dd',data:=.cls cd,slots:=sl } ∧ h.Ns cd.ns mM ∧ mM "__init__" = some (.ref fI) ∧ mM "__setattr__" = none ∧ mM "what" = none ∧ mM "at" = none
noncomputable def Zow (d:Data):ClassData:=by
  cases d with
  | cls d=>exact d
  | _=>exact default
noncomputable def clsD (K:Frag) (a:Addr):ClassData:=Zow (fo K a).data
noncomputable def slD (K:Frag) (a:Addr) (i:Nat):Option Value:=((fo K a).slots[i]?).getD none
noncomputable def ecD (K:Frag) (C:Addr):EC:=⟨(clsD K C).name,(clsD K C).qualname,(clsD K C).ns,(clsD K C).bases,(clsD K C).slotNames,(clsD K C).subclasses,(clsD K C).abstract,(clsD K C).collection,(fo K C).dict,slD K C 0,slD K C 1,slD K C 2,slD K C 3,slD K C 5⟩
structure ZkN (K:Frag) (Cc M fI:Addr):Prop where
  cc:K.lookup Cc = some ((ecD K Cc).o Cc (.ref M :: bmE) true "Exception.__new__")
  mm:K.lookup M = some { cls:=(fo K M).cls,dict:=(fo K M).dict,data:=.cls (clsD K M),slots:=(fo K M).slots }
  ok:nsOkIn K (clsD K Cc).ns = true
  i:nsIn K (clsD K Cc).ns "__init__" = some none
  sa:nsIn K (clsD K Cc).ns "__setattr__" = some none
  w:nsIn K (clsD K Cc).ns "what" = some none
  a:nsIn K (clsD K Cc).ns "at" = some none
  okM:nsOkIn K (clsD K M).ns = true
  iM:nsIn K (clsD K M).ns "__init__" = some (some (.ref fI))
  saM:nsIn K (clsD K M).ns "__setattr__" = some none
  wM:nsIn K (clsD K M).ns "what" = some none
  aM:nsIn K (clsD K M).ns "at" = some none
theorem Zdg {K:Frag} {h:Heap} {Cc M fI:Addr} (X:K.In h) (q:ZkN K Cc M fI):Own2 h Cc M fI:=
  ⟨ecD K Cc,_,_,_,_,_,_,X _ _ q.cc,.of_isNs (isNs_of_in X q.ok),nsMap_none_of_in X q.ok q.i,nsMap_none_of_in X q.ok q.sa,nsMap_none_of_in X q.ok q.w,nsMap_none_of_in X q.ok q.a,X _ _ q.mm,.of_isNs (isNs_of_in X q.okM),Zgd X (.of_isNs (isNs_of_in X q.okM)) q.iM,nsMap_none_of_in X q.okM q.saM,nsMap_none_of_in X q.okM q.wM,nsMap_none_of_in X q.okM q.aM⟩
theorem Zhd {M:Addr}:OwnX (.ref M :: bmE) bmE:=⟨by simp [bmE],by simp [bmE],by simp [bmE]⟩
theorem Own2.at {h:Heap} {Cc M fI:Addr} {o:Obj} (O:Own2 h Cc M fI) (ho:h.get? fI = some o) (hc:o.cls = .type "function"):Zmm h Cc fI (.ref M :: bmE):=by
  obtain ⟨Y,mN,c0,dd',cd,sl,mM,a1,a2,a3,_,_,_,b1,b2,b3,_⟩:=O.ex
  exact ⟨⟨Y,true,mN,a1,a2,a3,rfl⟩,⟨M,bmE,c0,dd',cd,sl,mM,rfl,b1,b2,b3⟩,⟨o,ho,hc⟩⟩
end
section
open Sem (wp)
section
variable {C:Cx} {A:Around} {E:Value -> Shared -> Prop} {g:Array GenState} {d:Drawn} {os:OsState}
theorem ZcV {qn:Str} {sc:Scope} {L fI:Addr} {cd:Value} {x:Str} {pos:Pos} {m:Str → Option Value} {v:Value} {s:Shared} {Q:Value → Shared → Prop} (hk:sc.kind = .function) (hx:sc.names.lookup x = some .local) (hd:(x == ("__debug__" : Str)) = false) (hn:s.heap.Ns L m) (hv:m x = some v) (h:Q v s) :
    wpAny C.M A (eval (.Name x pos) (envX qn sc L fI cd [])) Q E s:=
  wpAny_Name (wpAny_loadName_local (env:=envX qn sc L fI cd []) hk hx hn hv h) hd
theorem Zjp (G:KF C.K) {qn:Str} {L fI e t0 M fI':Addr} {cd:Value} {v:Value} {h:Heap} {m:Str -> Option Value} {tk:Nat} {Q:Flow -> Shared -> Prop}
    (O:Own2 h (ga C.K "MachineError") M fI') (X:C.K.In h) (T:Top C.p C.loose C.mean C.mg C.mb h) (hns:h.Ns L m) (hself:m "self" = some (.ref e)) (hwhat:m "what" = some v) (hat:m "at" = some .none)
    (he:h.get? e = some { cls:=.ref (ga C.K "MachineError"),data:=.fields #[.ref t0,.none,.none,.none,.bool false,.none] }) (hKe:e ≠ L)
    (hOwn:∀ h',(∀ b o,b ≠ e → h.get? b = some o → h'.get? b = some o) → Own2 h' (ga C.K "MachineError") M fI')
    (hq:∀ h' tk',(∀ b o,b ≠ e → h.get? b = some o → h'.get? b = some o) → (∃ oe t',h'.get? e = some oe ∧ oe.cls = .ref (ga C.K "MachineError") ∧ oe.data = .fields #[.ref t',.none,.none,.none,.bool false,.none] ∧ h.get? t' = none ∧ h'.TupAt t' [v]) → Q .next ⟨h',g,d,tk',os⟩) :
    wpAny C.M A (execs (MT 2 0 "MintError").body (envX qn (MT 2 0 "MintError").scope L fI cd [])) Q E ⟨h,g,d,tk,os⟩:=by
  have hkf:(MT 2 0 "MintError").scope.kind = .function:=by kernel_rfl
  have TT:=topRead_of T
  show wpAny _ _ (execs (_ :: _) _) _ _ _
  refine wpAny_execs_cons (wpAny_Expr_any ?_ (by simp [interactive,hkf]) rfl)
  refine MethodCall_ (pl:=do return (<- importBound _ _).getD true) ?_ (ZeO rfl rfl (by kernel_rfl) (by kernel_rfl))
  refine Name_function_global (env:=envX qn (MT 2 0 "MintError").scope L fI cd []) hkf (by kernel_rfl) ?_ (by kernel_rfl)
  refine loadGlobal_builtin (env:=envX qn (MT 2 0 "MintError").scope L fI cd []) (mg:=C.mg) (mb:=C.mb) TT.g (mg_none_of X TT.g (ok_b G.ok (by kernel_rfl))) TT.b ((TT.builtins "Exception" (by decide)).trans (by kernel_rfl:bootBuiltins "Exception" = some (.type "Exception"))) ?_
  refine Zgl X ?_
  refine callWith_of (P:=fun h'=>h' = h) (by rfl) (fun h' e=>by subst e; exact (callable.keeps (K:=C.K) (Zah (x := "Exception.__init__")) _ X)) ?_
  refine e7a1 (id O.ex) fun Y mN c0 dd' cdM sl mM hC _=>?_
  refine evalArgs_plain ?_
  refine spliced_more (ZcV hkf (by kernel_rfl) (by kernel_rfl) hns hself ?_) rfl
  refine spliced_more (ZcV hkf (by kernel_rfl) (by kernel_rfl) hns hwhat ?_) rfl
  refine spliced_none ⟨rfl,?_⟩
  refine ZiX (Zhd (M:=M)) hC he (by rw [sizeLine_eq]; simp) fun h1 k1' ⟨t1,ht1,he1,htu1⟩=>?_
  have ht1e:t1 ≠ e:=fun z=>by rw [z,he] at ht1; exact nes ht1
  have O1:=hOwn h1 k1'
  have hns1:h1.Ns L m:=by
    refine e3a1 hns fun o es ep q1 r=>?_
    exact ⟨o,es,ep,k1' _ _ (Ne.symm hKe) q1,r⟩
  obtain ⟨Y1,mN1,c01,dd1',cdM1,sl1,mM1,a1,a2,a3,a4,a5,a6,b1,b2,b3,b4,b5,b6⟩:=O1.ex
  refine wpAny_execs_cons (plainObj_wpAny_Assign_Attribute (ZcV hkf (by kernel_rfl) (by kernel_rfl) hns1 hwhat (ZcV hkf (by kernel_rfl) (by kernel_rfl) hns1 hself ?_)) rfl)
  refine ZdV (ns:=[]) (mA:=fun _=>none) a1 a2 a4 a5 b1 b2 b4 b5 (by rw [typeLookup_type,builtinLookup_eq_fast]; kernel_rfl) ⟨_,he1,rfl,(fun c z=>by cases z),.inl ⟨rfl,fun _=>rfl⟩⟩ (fun h2 tk2 I2 k2' same2=>?_) Within.nil (by rw [sizeLine_eq]; simp)
  refine e1a4 (same2 _ he1) fun o2 ho2 ho2c ho2d _ hfresh2=>?_
  have keep2:∀ b o,b ≠ e -> h1.get? b = some o -> h2.get? b = some o:=fun b o hne hb=>k2' b o hne (fun o₀ dx e0 ed=>by rw [he1] at e0; obtain rfl:=Option.some.inj e0; exact nse ed) hb
  have O2:=hOwn h2 fun b o hne hb=>keep2 b o hne (k1' b o hne hb)
  have hns2:h2.Ns L m:=by
    refine e3a1 hns1 fun o es ep q1 r=>?_
    exact ⟨o,es,ep,keep2 _ _ (Ne.symm hKe) q1,r⟩
  obtain ⟨Y1,mN1,c01,dd1',cdM1,sl1,mM1,a1,a2,a3,a4,a5,a6,b1,b2,b3,b4,b5,b6⟩:=O2.ex
  refine wpAny_execs_cons (plainObj_wpAny_Assign_Attribute (ZcV hkf (by kernel_rfl) (by kernel_rfl) hns2 hat (ZcV hkf (by kernel_rfl) (by kernel_rfl) hns2 hself ?_)) rfl)
  refine ZdV (ns:=[Str.ofString "what"]) a1 a2 a4 a6 b1 b2 b4 b6 (by rw [typeLookup_type,builtinLookup_eq_fast]; kernel_rfl) I2 (fun h3 tk3 I3 k3' same3=>?_) (Within.cons _ _ Within.nil) (by rw [sizeLine_eq]; simp)
  refine e1a4 (same3 _ ho2) fun o3 ho3 ho3c ho3d _ _=>?_
  have keep3:∀ b o,b ≠ e -> h1.get? b = some o -> h3.get? b = some o:=fun b o hne hb=>k3' b o hne (fun o₀ dx e0 ed z=>by
    rw [ho2] at e0; obtain rfl:=Option.some.inj e0
    have:=hfresh2 rfl dx ed
    rw [<- z,hb] at this; exact nes this) (keep2 b o hne hb)
  refine wpAny_execs_nil (hq h3 _ (fun b o hne hb=>keep3 b o hne (k1' b o hne hb)) ⟨o3,t1,ho3,ho3c.trans ho2c,ho3d.trans ho2d,ht1,_,_,keep3 _ _ ht1e htu1,rfl,rfl⟩)
end
end
section
open Sem (wp)
structure KO (K:Frag):Prop where
  own:ZkN K (ga K "MachineError") (ga K "MintError") (ma K "MachineError" "__init__")
section
variable {M:Model} {A:Around} {E:Value -> Shared -> Prop}
variable {C:Addr}
theorem Zg7 {s:Shared} {x:Sem Value} {env:Env} {Q:Flow -> Shared -> Prop} (hh:A.handled = none)
    (h:wpAny M A x (fun v s₁=>∃ (e:Addr) (oe:Obj) (t:Addr) (Y:EC) (bm:List Value) (hdct:Bool) (newId:String),v = .ref e ∧ s₁.heap.get? C = some (Y.o C bm hdct newId) ∧ bm.contains (.type "BaseException") = true ∧
      s₁.heap.get? e = some oe /\ oe.cls = .ref C /\ oe.data = .fields #[.ref t,.none,.none,.none,.bool false,.none] /\ E (.ref e) s₁) E s) :
    wpAny M A (raiseStmt env (some x) none) Q E s:=by
  unfold raiseStmt
  refine wpAny_bind (wpAny_mono h (fun v s₁ h₁=>?_) fun _ _ x=>x)
  obtain ⟨e,oe,t,Y,bm,hdct,newId,rfl,hC,hbase,he,hcls,hd,hE⟩:=h₁
  have hcB:(Value.ref C :: bm).contains (.type "BaseException") = true:=by rw [List.contains_cons,hbase,Bool.or_true]
  obtain ⟨hp,g,d,tk,os⟩:=s₁
  obtain ⟨oc,od,odt,osl⟩:=oe
  dsimp only at hcls hd
  subst hcls hd
  repeat (first | with_reducible refine wpAny_loadPart_at he ?_ | with_reducible refine wpAny_loadPart_at hC ?_ | (with_reducible refine wpAny_isSubtype_exc hC ?_; rw [hcB]) | wp_step)
  exact wpAny_raiseNew_none hh hE
end
section
variable {C:Cx} {k:Nat} {fi:Fi} {σ σ₁ σ₂ σ':St}
theorem Zip (G:KF C.K) (D:KD C.K) (O:KO C.K) {msg:Str} {np cpos pos p1:Pos} {n1:Nat} {r:List Stmt} (hk:(kd fi).lookup (Str.ofString "MachineError") = some .globalImplicit) :
    ExM C (k + 2) fi σ (.Raise (some (.Call (.Name (Str.ofString "MachineError") np) [.Constant (.str msg) n1 p1] [] cpos)) none pos :: r) σ:=by
  intro fd W s Q E ok R bk
  have hh:(fd.A fi).handled = none:=by
    rcases ok.hn with e | e
    . exact e
    . cases e
  refine wpAny_execs_cons ?_
  rw [arm_exec_Raise]
  refine wpAny_bind (wpAny_standAt (Zg7 (C:=ga C.K "MachineError") hh ?_))
  refine wpAny_bind (wpAny_mono ?_ (fun v s₃ h₃=>wpAny_bind (wpAny_standAt (wpAny_pure h₃))) fun _ _ x=>x)
  refine Call_ (Ziw (σ:=σ) G (by kernel_rfl) hk (by kernel_rfl) fd W s _ E ok R fun W1 v1 g1 t1 l1 R1 V1=>?_) rfl
  apply VRel.con_e V1
  refine callWith_of (P:=fun h=>C.K.In h) (by rfl) (fun h X=>(kp_g G (by kernel_rfl)).keeps h X) ?_
  refine evalArgs_plain ?_
  refine spliced_more (ZkW (C:=C) (k:=k) (fi:=fi) (σ:=σ) (i:=msg) fd W1 { s with heap:=g1,toks:=t1 } _ E (ok.le (by lia)) R1 fun W2 v2 g2 t2 l2 R2 V2=>?_) rfl
  refine e1a1 R2.fr fun m2 F2 _=>?_
  have X2:=ok.X.keeps F2.keep
  refine spliced_none ⟨X2,?_⟩
  have own:=Zdg X2 O.own
  have FI:=G.m_err
  refine ZiY Zhd (own.at (X2 _ _ FI.obj) ?_) (fun h' e hm=>?_) (by rw [sizeLine_eq]; simp)
  . have:=FI.isfn
    unfold isFn typeIn at this
    dsimp only at this
    rw [FI.obj] at this
    exact Option.some.inj (beq_iff_eq.mp this)
  apply VRel.str_e V2; intro tkm
  refine e4a3 (Ze1 D.d_err) fun T0 o0 vs0 n0 d1 d2 d3 d4=>?_
  have hv0:vs0 = [.none]:=VRels.cons_e (P:=fun l=>l = [Value.none]) (d4 ⟨[],[]⟩) fun v vs a r=>VRel.none_e (P:=fun v=>v :: vs = [Value.none]) a (VRels.nil_e (P:=fun vs=>Value.none :: vs = [Value.none]) r rfl)
  subst hv0
  have X':C.K.In h':=X2.keeps hm.keeps
  have Tp2:=ok.T.keeps F2.keep
  have Tp':=Tp2.keeps hm.keeps
  refine wpAny_call (codeAny_call_def (fd:=ZfH C.K (ma C.K "MachineError" "__init__") (MT 2 0 "MintError")) (body:=(MT 2 0 "MintError").body) (binds:=[(Str.ofString "self", .ref e),(Str.ofString "what", .str msg tkm),(Str.ofString "at", .none)]) ?_ (X' _ _ FI.obj) rfl Tp'.nolimit (codeRec_of X' FI.code) rfl (binds_K X' d1 d2 d3 (by rfl) (by rfl)) ?_ ?_ (fun h₀ hns hk₁=>?_) (by kernel_rfl) (by kernel_rfl) (by kernel_rfl))
  . have:=ok.dp
    refine Nat.lt_of_le_of_lt (m:=fd.dp + 10) (Nat.add_le_add_left (Nat.le_of_ble_eq_true (by kernel_rfl)) _) (by unfold recursionLimit; lia)
  . have:ZaW (MT 2 0 "MintError") [] = true:=by kernel_rfl
    simp only [ZaW,Bool.and_eq_true] at this
    intro x hx
    exact bne_iff_ne.mp (List.all_eq_true.mp this.1.1.1.2 x hx)
  . intro x hx
    simp only [List.mem_cons,List.not_mem_nil,or_false] at hx
    rcases hx with rfl | rfl | rfl <;> kernel_rfl
  have X0:C.K.In h₀:=X'.keeps hk₁
  refine e1a2 hm.there fun tt hme _ _=>?_
  have heL:e ≠ h'.objs.size:=Nat.ne_of_lt (Heap.lt_size hme)
  have hIn:∀ h'',(∀ b o,b ≠ e -> h₀.get? b = some o -> h''.get? b = some o) -> C.K.In h'':=fun h'' hk a o hl=>hk a o (fun z=>by
    have:=X2 a o hl
    rw [z,hm.new] at this; exact nse this) (X0 a o hl)
  have old:∀ b,h₀.get? b = none -> g2.get? b = none:=fun b q=>by
    cases z:g2.get? b with
    | none=>rfl
    | some o=>have:=hk₁ b o (hm.keeps b o z); rw [q] at this; exact nse this
  refine Zjp (A:=_) G (M:=ga C.K "MintError") (fI':=ma C.K "MachineError" "__init__") (qn:=(MT 2 0 "MintError").qual) (L:=h'.objs.size) (fI:=ma C.K "MachineError" "__init__") (e:=e) (t0:=tt) (v:=.str msg tkm) (cd:=(ZL C.K (ma C.K "MachineError" "__init__")).code) (Zdg X0 O.own) X0 (Tp'.keeps hk₁) hns (by kernel_rfl) (by kernel_rfl) (by kernel_rfl) (hk₁ _ _ hme) heL (fun h'' hk=>Zdg (hIn h'' hk) O.own) (fun h3 tk3 k3 ⟨oe,t',he3,hc3,hd3,ht3,htu3⟩=>?_)
  have In3:=hIn h3 k3
  refine e7a1 ((Zdg In3 O.own).ex) fun Y mN c0 dd' cd sl mM hC _=>?_
  refine ⟨rfl,e,oe,t',Y,_,true,_,rfl,hC,by simp [bmE],he3,hc3,hd3,?_⟩
  exact bk e h3 tk3 ⟨W2,g2,t',oe,_,_,l1.trans l2,R2,fun b o hb=>k3 b o (fun z=>by rw [z,hm.new] at hb; exact nse hb) (hk₁ b o (hm.keeps b o hb)),hm.new,he3,hc3,hd3,rfl,rfl,old t' ht3,htu3⟩
end
end
noncomputable def LF:FD:=FN 71
noncomputable def LB (i:Nat):Stmt:=stAt LF.body i
structure LS where
  at_:Option PV
  seed:Int
  S:MS
  rows:List (List Int)
  whole:List Int
  held:List (Int × Int)
noncomputable def LG (K:Frag) (l:LS):List AObj:=
  [.cell (some (.ref 18)),.cell l.at_,.cell (some (.int l.seed)),
   .attrs [("forms", .lst []),("by_name", .ref 5),("by_code", .ref 6)],.inst (ga K "InstructionSet") 3,.dict [],.dict [],
   .attrs [("iset", .ref 4),("regs", .ref 9),("xmm", .ref 10),("flags", .obj (ga K "Flags") [("cf", .int 0),("pf", .int 0),("af", .int 0),("zf", .int 0),("sf", .int 0),("of", .int 0),("df", .int 0)]),("memory", .ref 12),("rip", .int 0),("begin", .int 0),("segments", .any),("is_halted", .bool false)],
   .inst (ga K "State") 7,.list (l.S.regs.map .int),.list (l.S.xmm.map .int),.attrs [("held", .ref 13)],.inst (ga K "Memory") 11,.dict (dI l.S.mem),
   .cell (some (.int 7)),.cell (some (.int l.seed)),.list (l.rows.map rowP),.list (l.whole.map .int),.dict (dI l.held)]
noncomputable def lawB (K:Frag):SId:=⟨8,7,9,10,12,11,13,.ref 4,.obj (ga K "Flags") [("cf", .int 0),("pf", .int 0),("af", .int 0),("zf", .int 0),("sf", .int 0),("of", .int 0),("df", .int 0)]⟩
section
variable {K:Frag} {l:LS} {X:List AObj}
theorem Z0:(LG K l).length = 19:=rfl
theorem Zer:StA K (LG K l ++ X) (lawB K) l.S:=⟨rfl,rfl,rfl,rfl,⟨rfl,rfl,rfl⟩,by show (9:Nat) ≠ 10; decide⟩
theorem ZoT {S':MS}:SH (lawB K) (LG K l ++ X) S' = LG K { l with S:=S' } ++ X:=rfl
theorem Zmr:(LG K l ++ X)[0]? = some (.cell (some (.ref 18))):=rfl
theorem Zn8:(LG K l ++ X)[1]? = some (.cell l.at_):=rfl
theorem Zmo:(LG K l ++ X)[2]? = some (.cell (some (.int l.seed))):=rfl
theorem ZcB:(LG K l ++ X)[16]? = some (.list (l.rows.map rowP)):=rfl
theorem ZdH:(LG K l ++ X)[17]? = some (.list (l.whole.map .int)):=rfl
theorem Zii:(LG K l ++ X)[18]? = some (.dict (dI l.held)):=rfl
theorem ZoS:(LG K l ++ X)[8]? = some (.inst (ga K "State") 7):=rfl
theorem ZoU:(LG K l ++ X)[7]? = some (.attrs [("iset", .ref 4),("regs", .ref 9),("xmm", .ref 10),("flags", .obj (ga K "Flags") [("cf", .int 0),("pf", .int 0),("af", .int 0),("zf", .int 0),("sf", .int 0),("of", .int 0),("df", .int 0)]),("memory", .ref 12),("rip", .int 0),("begin", .int 0),("segments", .any),("is_halted", .bool false)]):=rfl
theorem LG_m:(LG K l ++ X)[12]? = some (.inst (ga K "Memory") 11):=rfl
theorem ZoV:(LG K l ++ X)[11]? = some (.attrs [("held", .ref 13)]):=rfl
theorem ZkR:MemAt K (LG K l ++ X) 12 11 13 l.S.mem:=⟨rfl,rfl,rfl⟩
theorem ZjM {v:Option PV}:(LG K l ++ X).set 1 (.cell v) = LG K { l with at_:=v } ++ X:=rfl
theorem ZgC {r:List (Int × Int)}:(LG K l ++ X).set 18 (.dict (dI r)) = LG K { l with held:=r } ++ X:=rfl
theorem Zn7 {n:Nat} (hn:19 <= n) (ha:∀ v,l.at_ = some v -> PV.lim n v = true):LimH n (LG K l):=by
  unfold LG
  have q:∀ {i:Nat},Nat.ble (i + 1) 19 = true -> i < n:=fun h=>Nat.lt_of_lt_of_le (Nat.le_of_ble_eq_true h) hn
  refine LimH.cons (limC (q rfl)) (LimH.cons ?_ (LimH.cons rfl (LimH.cons (Zlm (q rfl) (q rfl)) (LimH.cons (limI (q rfl)) (LimH.cons rfl (LimH.cons rfl (LimH.cons (Znk (limr (q rfl)) (q rfl) (q rfl) rfl (q rfl) rfl) (LimH.cons (limI (q rfl)) (LimH.cons Zaa (LimH.cons Zaa (LimH.cons (Zln (q rfl)) (LimH.cons (limI (q rfl)) (LimH.cons (ZbO _) (LimH.cons rfl (LimH.cons rfl (LimH.cons Zdj (LimH.cons Zaa (LimH.cons (ZbO _) LimH.nil))))))))))))))))))
  cases h:l.at_ with
  | none=>rfl
  | some v=>exact ha v h
end
noncomputable def EvU (n:Nat) (C:Cx) (k:Nat) (fi:Fi) (σ:St) (e:Expr) (xs:List PV) (σ':St):Prop:=
  ∀ (fd:Fd) (W:Wd) (s:Shared) (u:Value -> Sem Unit) (Q:Shared -> Prop) (E:Value -> Shared -> Prop),OkF C k fi fd -> Rl fd W σ s.heap ->
    (∀ (W':Wd) (D:Addr) (vs:List Value) (m:Nat) (h':Heap) (tk':Nat) (Ca:Addr) (mC:Str -> Option Value),(W.cut n).le W' -> Rl fd W' σ' h' -> h'.get? D = some (lstO vs m) -> D ≠ fd.L -> fd.b.get? D = none -> D ∉ W'.adr -> VRels W' xs vs ->
      h'.Ns Ca mC -> Ca ∉ W'.adr -> Ca ≠ fd.L -> fd.b.get? Ca = none -> D ≠ Ca ->
      wpAny C.M (fd.A fi) (u (.ref D)) (fun _ s''=>∃ m,s''.heap.Ns Ca m /\ ∀ h',Heap.SameBut Ca s''.heap h' -> Q { s'' with heap:=h' }) E { s with heap:=h',toks:=tk' }) ->
    wpAny C.M (fd.A fi) (evalThenUse e (fd.ev fi) u) (fun _ s'=>Q s') E s
section
variable {C:Cx} {k:Nat} {fi:Fi} {σ σ₁ σ₂ σ₃ σ':St}
theorem Zj1 {nF:Nat} {elt iter target:Expr} {ifs:List Expr} {scope:Scope} {pos:Pos} {p:PV} {items:List PV} {m:Nat} {H0:List AObj} {cc:List (Str × Nat)} {loc':List (Str × PV)} (outs:Nat -> List PV)
    (hcmp:fi.cmp = none) (h:Ev C (k + 1) fi σ iter p σ₁) (S:ZbI σ₁.H p H0 m items) (hT:Zem m target)
    (hcc:CcOk scope.names σ.cm cc) (hfr:∀ x ∈ scope.names,x.2 = .free -> (lkN x.1 σ.cm).isSome = true)
    (hcell:∀ y ∈ scope.names,y.2 ≠ .cell) (hkind:scope.kind = .function) (hnames:∀ y ∈ scope.names,y.2 = .local -> scope.names.lookup y.1 = some .local)
    (h0:outs 0 = []) (hz:∀ i,(outs i).length <= 100000) (hlo:PV.lims H0.length (outs items.length) = true)
    (hlH:LimH H0.length H0) (hlL:LimL H0.length loc') (hll:∀ x v,lk x loc' = some v -> lk x σ₁.loc = some v) (hci:σ₁.ci = none) (hck:σ₁.cc = []) (hcl0:∀ x i,lkN x σ₁.cm = some i -> i < H0.length) (hle:nF <= H0.length)
    (turn:∀ i q,items[i]? = some q -> ∀ os:List Obj,os.length = m -> ∃ es b,AsJ C (k + 1) { fi with cmp:=some scope } (Zp σ₁ H0 os (outs i) [] cc) target q (Zp σ₁ H0 os (outs i) es cc) /\
      TestsJ C (k + 1) { fi with cmp:=some scope } (Zp σ₁ H0 os (outs i) es cc) ifs b /\
      (b = true -> ∃ v,outs (i + 1) = outs i ++ [v] /\ Ev C (k + 1) { fi with cmp:=some scope } (Zp σ₁ H0 os (outs i) es cc) elt v (Zp σ₁ H0 os (outs i) es cc)) /\ (b = false -> outs (i + 1) = outs i))
    (hs:∀ env x,foldedSetIterable iter env x = pure x:=by intro _ _; rfl) :
    EvU nF C (k + 1) fi σ (.ListComp elt [⟨target,iter,ifs,0⟩] scope pos) (outs items.length) { σ₁ with H:=H0,loc:=loc' }:=by
  intro fd W s u Q E ok R bk
  rw [Zar hcmp]
  show wpAny _ _ (do let _ <- comprehension (.ListComp elt [⟨target,iter,ifs,0⟩] scope pos) scope (fd.env fi) _ (newList []) false (eval iter (fd.env fi)) (some u)) _ _ _
  refine wpAny_bind (wpAny_mono (Q:=fun _ s'=>Q s') ?_ (fun _ s' hq=>wpAny_pure hq) fun _ _ e=>e)
  exact Zed (use:=some u) outs hcmp h S hT hcc hfr hcell hkind hnames h0 hz hlo hlH hlL hll hci hck hcl0 hle turn hs ok R fun W' D vs m h' tk' Ca mC _ l R' hD hDL hDb hDa V hN hCa hCL hCb hDC=>bk W' D vs m h' tk' Ca mC l R' hD hDL hDb hDa V hN hCa hCL hCb hDC
theorem Zj0 {n:Nat} {e:Expr} {xs:List PV} (h:LimH σ.H.length σ.H -> LimL σ.H.length σ.loc -> CmL σ.H.length σ.cm -> EvU n C k fi σ e xs σ'):EvU n C k fi σ e xs σ':=fun fd W s u Q E ok R bk=>h R.limsH R.limsL R.limsC fd W s u Q E ok R bk
theorem Zex {elt iter:Expr} {x:Str} {px pos:Pos} {scope:Scope} {a b c:Int} {n:Nat} {l:List (Str × PV)} {cm cc:List (Str × Nat)} {H:List AObj} (f:Nat -> Int) (hcmp:fi.cmp = none) (h:Ev C (k + 1) fi ⟨l,cm,H,none,[]⟩ iter (.rng a b c) ⟨l,cm,H,none,[]⟩)
    (hsm:Builtin.Range.small a b c = true) (hr:Builtin.Range.rangeSize a b c = ((n:Nat):Int)) (hz:n <= 100000)
    (hc:ccOk scope.names cm cc) (hs:Zbd scope = true) (hk:(kd { fi with cmp:=some scope }).lookup x = some .local)
    (turn:∀ i,i < n -> ∀ os:List Obj,os.length = 1 -> Ev C (k + 1) { fi with cmp:=some scope } ⟨l,cm,H ++ os.map .raw ++ [.list ((List.range i).map fun i=>.int (f i)),.ns [(x,.int (a + (i:Int) * c))]],some (H.length + os.length + 1),cc⟩ elt (.int (f i)) ⟨l,cm,H ++ os.map .raw ++ [.list ((List.range i).map fun i=>.int (f i)),.ns [(x,.int (a + (i:Int) * c))]],some (H.length + os.length + 1),cc⟩)
    (hfs:∀ env x,foldedSetIterable iter env x = pure x:=by intro _ _; rfl) :
    EvU H.length C (k + 1) fi ⟨l,cm,H,none,[]⟩ (.ListComp elt [⟨.Name x px,iter,[],0⟩] scope pos) (((List.range n).map f).map .int) ⟨l,cm,H,none,[]⟩:=by
  refine Zj0 fun lH lL lC=>?_
  refine e0a2 (Zbt hs) fun h1 h2 h3=>?_
  have:=Zj1 (C:=C) (k:=k) (fi:=fi) (elt:=elt) (pos:=pos) (iter:=iter) (ifs:=[]) (scope:=scope) (target:=.Name x px) (σ:=⟨l,cm,H,none,[]⟩) (σ₁:=⟨l,cm,H,none,[]⟩) (p:=.rng a b c) (H0:=H) (cc:=cc) (loc':=l) (items:=(List.range n).map fun i:Nat=>PV.int (a + (i:Int) * c)) (m:=1) (nF:=H.length) (fun i=>(List.range (min i n)).map fun i=>.int (f i)) hcmp h (.rng hsm hr) (.name _ _) hc.1 hc.2 h1 h2 h3 (by simp) (fun i=>by simp; lia) (by
      have:=Zbp H.length ((List.range n).map f)
      rw [List.map_map] at this
      show PV.lims H.length (List.map (PV.int ∘ f) (List.range (min _ n))) = true
      rw [List.length_map,List.length_range,Nat.min_self]; exact this) lH lL (fun _ _ e=>e) rfl rfl lC (Nat.le_refl _) (fun i q hq os ho=>by
    have hi:i < n:=by have:=(List.getElem?_eq_some_iff.mp hq).1; simpa using this
    have e1:min i n = i:=Nat.min_eq_left (Nat.le_of_lt hi)
    have e2:min (i + 1) n = i + 1:=Nat.min_eq_left hi
    refine e0a1 (Zb2 hq) fun _ hqa=>?_; subst hqa
    simp only [e1,e2]
    exact ⟨[(x,.int (a + (i:Int) * c))],true,Zfl hk,.nil,fun _=>⟨.int (f i),by simp [List.range_succ],turn i hi os ho⟩,fun e=>by exact tf e⟩) hfs
  have e:(List.range (min ((List.range n).map fun i:Nat=>PV.int (a + (i:Int) * c)).length n)).map (fun i=>PV.int (f i)) = ((List.range n).map f).map .int:=by rw [List.length_map,List.length_range,Nat.min_self,List.map_map]; rfl
  rw [<- e]; exact this
theorem Zmy {y:Str} {py spos:Pos} {e:Expr} {xs:List PV} {l l' loc:List (Str × PV)} {cm cm':List (Str × Nat)} {H H':List AObj} {ci:Option Nat} {cc:List (Str × Nat)} (h:EvU H'.length C k fi ⟨l,cm,H,none,[]⟩ e xs ⟨l',cm',H',ci,cc⟩) (hHl:H.length <= H'.length) (hl:stl y (.lst xs) l' = loc) (hcm:fi.cmp = none) (hk:(kd fi).lookup y = some .local) (hs:∀ env:Env,env.blockKind = .function -> env.kindOf y = some .local -> swapsWith e (some (.Name y py)) spos.line env = pure true:=by intro env h1 h2; unfold swapsWith; dsimp only; rw [h1,h2]; rfl) :
    Ex1 C k fi ⟨l,cm,H,none,[]⟩ (.Assign [.Name y py] e spos) .next ⟨loc,cm',H',ci,cc⟩:=by
  subst hl
  intro fd W s Q E ok R bk
  show wpAny _ _ (exec _ (fd.ev fi)) _ _ _
  rw [exec_Assign_Name_used _ _ _ _ (hs _ (by simp [Env.blockKind,ZaS ok]) (kindOf_ev.trans hk))]
  refine wpAny_bind (wpAny_standAt (wpAny_bind ?_))
  refine wpAny_mono (Q:=fun _ s'=>Q .next s') (h fd W s _ (Q .next) E ok R ?_) (fun _ s' hq=>wpAny_pure hq) fun _ _ e=>e
  intro W' D vs m h' tk' Ca mC lw R' hD hDL hDb hDa V hCa hCo hCL hCb hDC
  have l1:=Wd.le_of_cut (by rw [R.len]; exact hHl) lw
  refine e0a2 (R'.give_lst hD hDL hDb (fun q=>hDa (List.mem_append_left _ q)) V) fun l2 R2 V2=>?_
  have hco2:Ca ∉ (W'.frz D (lstO vs m)).adr:=by
    intro q
    rcases List.mem_append.mp q with q | q
    . exact hCo (List.mem_append_left _ q)
    . rcases List.mem_map.mp q with ⟨p,hp,e⟩
      rcases List.mem_cons.mp hp with rfl | hp
      . exact hDC e
      . exact hCo (List.mem_append_right _ (List.mem_map.mpr ⟨p,hp,e⟩))
  refine e1a1 R2.fr fun mm F lc=>?_
  have hk':=hk
  rw [Zdl hcm] at hk'
  rw [Zar hcm]
  refine wpAny_assign_Name (wpAny_storeName_local hk' F.ns (fun h₂ hn hs₂=>?_) (by show (fi.cs.kind == .class || (fi.cs.kind == .module && fd.L != mainGlobals)) = false; rw [ok.kf]; rfl))
  refine ⟨mC,hCa.sameBut hs₂ hCL,fun h₃ hs₃=>?_⟩
  have R3:=R2.setLoc V2 (x:=y) (h':=h₂) (fun m' F'=>by
    refine ⟨?_,(F.set hn hs₂).keep,F'.above⟩
    have e:m' = mm:=by
      refine e3a3 F'.ns fun o es ep a1 a2 a3 a4=>?_
      refine e3a3 F.ns fun o' es' ep' b1 b2 b3 b4=>?_
      rw [a1] at b1; obtain rfl:=Option.some.inj b1
      rw [a2] at b2; cases b2
      funext y; rw [<- a4,<- b4]
    rw [e]; exact hn) hs₂
  have R4:=R3.off (wr:=[Ca]) (h':=h₃) (fun b o hb e=>(hs₃.2 b (fun q=>hb (by rw [q]; exact .head _))).trans e) (fun b hb=>by
    rw [List.mem_singleton.mp hb]; exact ⟨hco2,hCL,hCb⟩)
  exact bk _ .next h₃ _ (l1.trans l2) R4 .next
theorem ZjQ {y:Str} {py spos:Pos} {e:Expr} {xs:List PV} {l l' loc:List (Str × PV)} {cm cm':List (Str × Nat)} {H H':List AObj} {ci:Option Nat} {cc:List (Str × Nat)} (h:EvU H'.length C k fi ⟨l,cm,H,none,[]⟩ e xs ⟨l',cm',H',ci,cc⟩) (hHl:H.length <= H'.length) (hl:stl y (.ref H'.length) l' = loc) (hcm:fi.cmp = none) (hk:(kd fi).lookup y = some .local) (hs:∀ env:Env,env.blockKind = .function -> env.kindOf y = some .local -> swapsWith e (some (.Name y py)) spos.line env = pure true:=by intro env h1 h2; unfold swapsWith; dsimp only; rw [h1,h2]; rfl) :
    Ex1 C k fi ⟨l,cm,H,none,[]⟩ (.Assign [.Name y py] e spos) .next ⟨loc,cm',H' ++ [.list xs],ci,cc⟩:=by
  subst hl
  intro fd W s Q E ok R bk
  show wpAny _ _ (exec _ (fd.ev fi)) _ _ _
  rw [exec_Assign_Name_used _ _ _ _ (hs _ (by simp [Env.blockKind,ZaS ok]) (kindOf_ev.trans hk))]
  refine wpAny_bind (wpAny_standAt (wpAny_bind ?_))
  refine wpAny_mono (Q:=fun _ s'=>Q .next s') (h fd W s _ (Q .next) E ok R ?_) (fun _ s' hq=>wpAny_pure hq) fun _ _ e=>e
  intro W' D vs m h' tk' Ca mC lw R' hD hDL hDb hDa V hCa hCo hCL hCb hDC
  have l1:=Wd.le_of_cut (by rw [R.len]; exact hHl) lw
  refine e0a2 (R'.give_list hD hDL hDb hDa V) fun l2 R2 V2=>?_
  have hco2:Ca ∉ (W'.push D).adr:=by
    intro q
    rcases List.mem_append.mp q with q | q
    . rcases List.mem_append.mp q with q | q
      . exact hCo (List.mem_append_left _ q)
      . exact hDC (List.mem_singleton.mp q).symm
    . exact hCo (List.mem_append_right _ q)
  refine e1a1 R2.fr fun mm F lc=>?_
  have hk':=hk
  rw [Zdl hcm] at hk'
  rw [Zar hcm]
  refine wpAny_assign_Name (wpAny_storeName_local hk' F.ns (fun h₂ hn hs₂=>?_) (by show (fi.cs.kind == .class || (fi.cs.kind == .module && fd.L != mainGlobals)) = false; rw [ok.kf]; rfl))
  refine ⟨mC,hCa.sameBut hs₂ hCL,fun h₃ hs₃=>?_⟩
  have R3:=R2.setLoc V2 (x:=y) (h':=h₂) (fun m' F'=>by
    refine ⟨?_,(F.set hn hs₂).keep,F'.above⟩
    have e:m' = mm:=by
      refine e3a3 F'.ns fun o es ep a1 a2 a3 a4=>?_
      refine e3a3 F.ns fun o' es' ep' b1 b2 b3 b4=>?_
      rw [a1] at b1; obtain rfl:=Option.some.inj b1
      rw [a2] at b2; cases b2
      funext y; rw [<- a4,<- b4]
    rw [e]; exact hn) hs₂
  have R4:=R3.off (wr:=[Ca]) (h':=h₃) (fun b o hb e=>(hs₃.2 b (fun q=>hb (by rw [q]; exact .head _))).trans e) (fun b hb=>by
    rw [List.mem_singleton.mp hb]; exact ⟨hco2,hCL,hCb⟩)
  exact bk _ .next h₃ _ (l1.trans l2) R4 .next
end
section
open PySem PyProof.Rows
structure AS where
  p:Array Nat
  pend:Array (Nat × Nat × Nat)
  mg:Nat
noncomputable def cn (κ:SortKind) (f:Nat -> Keyed) (x:AS):SortSt:=SortSt.mk' κ (x.p.map f) x.pend x.mg none
noncomputable def Zms (L:Nat -> Nat -> Bool) (κ:SortKind) (prog:Program) (w:World) (A:Around) (s:Shared) (f:Nat -> Keyed):Prop:=
  ∀ (i j:Nat) (C:Bool -> Shared -> Prop) (E:Value -> Shared -> Prop),C (L i j) s -> wpAny (model prog w) A (keyLt' κ (f i).1 (f j).1) C E s
noncomputable def Runs (L:Nat -> Nat -> Bool) (κ:SortKind) {α β:Type} (m:(Nat -> Keyed) -> StateT SortSt Sem α) (c:(Nat -> Keyed) -> β -> α) (x:AS) (P:β -> AS -> Prop):Prop:=
  ∃ b x',P b x' /\ ∀ (prog:Program) (w:World) (A:Around) (E:Value -> Shared -> Prop) (s:Shared) (f:Nat -> Keyed),Zms L κ prog w A s f -> ∀ Q:α -> SortSt -> Prop,Q (c f b) (cn κ f x') -> wpS (model prog w) A E s (m f) Q (cn κ f x)
section
variable {L:Nat -> Nat -> Bool} {κ:SortKind} {α β γ δ:Type} {x:AS}
theorem Zr {m:(Nat -> Keyed) -> StateT SortSt Sem α} {k:(Nat -> Keyed) -> α -> StateT SortSt Sem γ} {c:(Nat -> Keyed) -> β -> α} {c':(Nat -> Keyed) -> δ -> γ} {P:β -> AS -> Prop} {P':δ -> AS -> Prop}
    (h:Runs L κ m c x P) (h2:∀ b x',P b x' -> Runs L κ (fun f=>k f (c f b)) c' x' P'):Runs L κ (fun f=>m f >>= k f) c' x P':=by
  refine e2a1 h fun b x' hP h=>?_
  refine e2a1 (h2 b x' hP) fun b' x'' hP' h'=>?_
  exact ⟨b',x'',hP',fun prog w A E s f G Q hQ=>wpS_bind (h prog w A E s f G _ (h' prog w A E s f G Q hQ))⟩
theorem Zf {v:(Nat -> Keyed) -> α} {c:(Nat -> Keyed) -> β -> α} {P:β -> AS -> Prop} (b:β) (hv:∀ f,v f = c f b) (hP:P b x):Runs L κ (fun f=>pure (v f)) c x P:=
  ⟨b,x,hP,fun _ _ _ _ _ f _ Q hQ=>wpS_pure (by rw [hv]; exact hQ)⟩
theorem Zbf {m:(Nat -> Keyed) -> StateT SortSt Sem α} {c:(Nat -> Keyed) -> β -> α} {P P':β -> AS -> Prop} (h:Runs L κ m c x P) (hp:∀ b x',P b x' -> P' b x'):Runs L κ m c x P':=by
  refine e2a1 h fun b x' hP h=>?_
  exact ⟨b,x',hp _ _ hP,h⟩
theorem Zac {m m':(Nat -> Keyed) -> StateT SortSt Sem α} {c:(Nat -> Keyed) -> β -> α} {P:β -> AS -> Prop} (e:∀ f,m f = m' f) (h:Runs L κ m' c x P):Runs L κ m c x P:=by
  refine e2a1 h fun b x' hP h=>?_
  exact ⟨b,x',hP,fun prog w A E s f G Q hQ=>by rw [e]; exact h prog w A E s f G Q hQ⟩
theorem ZcM {k:(Nat -> Keyed) -> SortSt -> StateT SortSt Sem γ} {c':(Nat -> Keyed) -> δ -> γ} {P':δ -> AS -> Prop} (h:Runs L κ (fun f=>k f (cn κ f x)) c' x P'):Runs L κ (fun f=>(get:StateT SortSt Sem SortSt) >>= k f) c' x P':=by
  refine e2a1 h fun b x' hP h=>?_
  exact ⟨b,x',hP,fun prog w A E s f G Q hQ=>wpS_bind (wpS_get (h prog w A E s f G Q hQ))⟩
theorem Zbu {g:(Nat -> Keyed) -> SortSt -> SortSt} {k:(Nat -> Keyed) -> PUnit -> StateT SortSt Sem γ} {c':(Nat -> Keyed) -> δ -> γ} {P':δ -> AS -> Prop} (x₁:AS) (hg:∀ f,g f (cn κ f x) = cn κ f x₁) (h:Runs L κ (fun f=>k f ⟨⟩) c' x₁ P'):Runs L κ (fun f=>(modify (g f):StateT SortSt Sem PUnit) >>= k f) c' x P':=by
  refine e2a1 h fun b x' hP h=>?_
  exact ⟨b,x',hP,fun prog w A E s f G Q hQ=>wpS_bind (wpS_modify (by rw [hg]; exact h prog w A E s f G Q hQ))⟩
theorem Zen {g:(Nat -> Keyed) -> SortSt -> SortSt} {P':PUnit -> AS -> Prop} (x₁:AS) (hg:∀ f,g f (cn κ f x) = cn κ f x₁) (h:P' ⟨⟩ x₁):Runs L κ (fun f=>(modify (g f):StateT SortSt Sem PUnit)) (fun _ (u:PUnit)=>u) x P':=
  ⟨⟨⟩,x₁,h,fun prog w A E s f G Q hQ=>wpS_modify (by rw [hg]; exact hQ)⟩
theorem ZiO {M:Model} {A:Around} {E:Value -> Shared -> Prop} {s:Shared} {r:String} {Q:Unit -> SortSt -> Prop} {st:SortSt} (h:Q () st):wpS M A E s (liftM (rule r):StateT SortSt Sem Unit) Q st:=by
  unfold wpS
  show wpAny M A ((StateT.lift (rule r):StateT SortSt Sem Unit).run st) _ E s
  rw [StateT.run_lift]
  exact wpAny_bind (wpAny_rule (wpAny_pure ⟨rfl,h⟩))
theorem Zc5 {r:String} {k:(Nat -> Keyed) -> Unit -> StateT SortSt Sem γ} {c':(Nat -> Keyed) -> δ -> γ} {P':δ -> AS -> Prop} (h:Runs L κ (fun f=>k f ()) c' x P'):Runs L κ (fun f=>(liftM (rule r):StateT SortSt Sem Unit) >>= k f) c' x P':=by
  refine e2a1 h fun b x' hP h=>?_
  exact ⟨b,x',hP,fun prog w A E s f G Q hQ=>wpS_bind (ZiO (h prog w A E s f G Q hQ))⟩
theorem Zw {q:Prop} [Decidable q] {m m':(Nat -> Keyed) -> StateT SortSt Sem α} {c:(Nat -> Keyed) -> β -> α} {P:β -> AS -> Prop} (h1:q -> Runs L κ m c x P) (h2:¬ q -> Runs L κ m' c x P):Runs L κ (fun f=>if q then m f else m' f) c x P:=by
  by_cases h:q
  . simp only [if_pos h]; exact h1 h
  . simp only [if_neg h]; exact h2 h
theorem R_lt {i j:Nat}:Runs L κ (fun f=>lt' (f i) (f j)) (fun _ (b:Bool)=>some b) x (fun _ x'=>x' = x):=by
  refine ⟨L i j,x,rfl,fun prog w A E s f G Q hQ=>?_⟩
  show wpS _ A E s (lt' (f i) (f j)) Q _
  rw [lt'_eq]
  refine wpS_bind (wpS_get ?_)
  refine wpS_bind ?_
  unfold wpS
  show wpAny _ A ((StateT.lift _:StateT SortSt Sem _).run _) _ E s
  rw [StateT.run_lift]
  refine wpAny_bind (wpAny_attempt (G i j _ _ ?_))
  refine wpAny_pure ⟨rfl,?_⟩
  exact wpS_pure hQ
theorem Zic {a:Array Nat} {i:Nat} (hi:i < a.size):Runs L κ (fun f=>elem' (a.map f) i) (fun f (k:Nat)=>f k) x (fun _ x'=>x' = x):=by
  refine ⟨a[i],x,rfl,fun prog w A E s f G Q hQ=>?_⟩
  show wpS _ A E s (elem' (a.map f) i) Q _
  rw [elem'_eq,Array.getElem?_map,Array.getElem?_eq_getElem hi]
  exact wpS_pure hQ
theorem ZnY {i j:Nat} (hi:i < x.p.size) (hj:j < x.p.size):Runs L κ (fun _=>ltAt' i j) (fun _ (b:Bool)=>some b) x (fun _ x'=>x' = x):=by
  refine Zac (fun f=>ltAt'_eq i j) ?_
  refine ZcM ?_
  refine Zr (Zic (a:=x.p) hi) ?_
  rintro b x' rfl
  refine Zr (Zic (a:=x'.p) hj) ?_
  rintro b' x'' rfl
  exact R_lt
theorem Zib {i j:Nat}:Runs L κ (fun _=>reverseSlice' i j) (fun _ (u:PUnit)=>u) x (fun _ x'=>∃ q:Array Nat,q.size = x.p.size /\ x' = ⟨q,x.pend,x.mg⟩):=by
  refine Zac (fun f=>reverseSlice'_eq i j) ?_
  refine Zen ⟨mirror x.p i j ((j - i) / 2),x.pend,x.mg⟩ (fun f=>?_) ⟨_,mirror_size _ _ _ _,rfl⟩
  have e1:mirror (x.p.map f) i j ((j - i) / 2) = (mirror x.p i j ((j - i) / 2)).map f:=PySem.W.kas_swaps_map f (fun k=>i + k) (fun k=>j - 1 - k) _ x.p
  show SortSt.mk' κ (mirror (x.p.map f) i j ((j - i) / 2)) x.pend x.mg none = SortSt.mk' κ ((mirror x.p i j ((j - i) / 2)).map f) x.pend x.mg none
  rw [e1]
theorem ZnX {i j:Nat}:Runs L κ (fun _=>moveDown' i j) (fun _ (u:PUnit)=>u) x (fun _ x'=>∃ q:Array Nat,q.size = x.p.size /\ x' = ⟨q,x.pend,x.mg⟩):=by
  refine Zac (fun f=>moveDown'_eq i j) ?_
  refine Zen ⟨bubble x.p i (i - j),x.pend,x.mg⟩ (fun f=>?_) ⟨_,bubble_size _ _ _,rfl⟩
  have e1:bubble (x.p.map f) i (i - j) = (bubble x.p i (i - j)).map f:=PySem.W.kas_swaps_map f (fun k=>i - k) (fun k=>i - k - 1) _ x.p
  show SortSt.mk' κ (bubble (x.p.map f) i (i - j)) x.pend x.mg none = SortSt.mk' κ ((bubble x.p i (i - j)).map f) x.pend x.mg none
  rw [e1]
noncomputable def Zo {α β:Type} (g:α -> β):ForInStep α -> ForInStep β
  | .done a=>.done (g a)
  | .yield a=>.yield (g a)
theorem ZkM {body:(Nat -> Keyed) -> Nat -> α -> StateT SortSt Sem (ForInStep α)} {c:(Nat -> Keyed) -> β -> α} {P:β -> AS -> Prop} (I:Nat -> β -> AS -> Prop)
    (step:∀ y n b x,I (n + 1) b x -> Runs L κ (fun f=>body f y (c f b)) (fun f=>Zo (c f)) x (fun r x'=>match r with | .done b'=>P b' x' | .yield b'=>I n b' x'))
    (fin:∀ b x,I 0 b x -> P b x):∀ (l:List Nat) (b:β) (x:AS),I l.length b x -> Runs L κ (fun f=>forIn l (c f b) (body f)) c x P
  | [],b,x,h=>by
    refine Zac (fun f=>List.forIn_nil ..) ?_
    exact Zf b (fun _=>rfl) (fin b x h)
  | y :: l,b,x,h=>by
    refine Zac (fun f=>List.forIn_cons ..) ?_
    refine Zr (step y l.length b x h) ?_
    intro r x' h'
    cases r with
    | done b'=>exact Zf b' (fun _=>rfl) h'
    | yield b'=>exact ZkM I step fin l b' x' h'
theorem Zep {a e:Nat} {body:(Nat -> Keyed) -> Nat -> α -> StateT SortSt Sem (ForInStep α)} {c:(Nat -> Keyed) -> β -> α} {P:β -> AS -> Prop} (I:Nat -> β -> AS -> Prop) (b:β) (h0:I (e - a) b x)
    (step:∀ y n b x,I (n + 1) b x -> Runs L κ (fun f=>body f y (c f b)) (fun f=>Zo (c f)) x (fun r x'=>match r with | .done b'=>P b' x' | .yield b'=>I n b' x'))
    (fin:∀ b x,I 0 b x -> P b x):Runs L κ (fun f=>forIn [a:e] (c f b) (body f)) c x P:=by
  have hsz:([a:e]:Std.Legacy.Range).size = e - a:=by simp [Std.Legacy.Range.size]
  refine Zac (m':=fun f=>forIn (List.range' a (e - a) 1) (c f b) (body f)) (fun f=>?_) (ZkM I step fin _ b x (by rw [List.length_range']; exact h0))
  rw [Std.Legacy.Range.forIn_eq_forIn_range']
  show forIn (List.range' a ([a:e]:Std.Legacy.Range).size 1) _ _ = _
  rw [hsz]
end
end
section
variable {L:Nat -> Nat -> Bool} {κ:SortKind} {x:AS}
noncomputable abbrev Sz (x x':AS):Prop:=∃ q:Array Nat,q.size = x.p.size /\ x' = ⟨q,x.pend,x.mg⟩
theorem Sz.refl (x:AS):Sz x x:=⟨x.p,rfl,rfl⟩
theorem Sz.trans {x y z:AS} (h:Sz x y) (h':Sz y z):Sz x z:=by
  refine e1a1 h fun q e hqa=>?_; subst hqa
  refine e1a1 h' fun q' e' hqa=>?_; subst hqa
  exact ⟨q',e'.trans e,rfl⟩
theorem Sz.size {x x':AS} (h:Sz x x'):x'.p.size = x.p.size:=by refine e1a1 h fun q e hqa=>?_; subst hqa; exact e
theorem Zcz {i j:Nat} {γ δ:Type} {k:(Nat -> Keyed) -> Option Bool -> StateT SortSt Sem γ} {c':(Nat -> Keyed) -> δ -> γ} {P':δ -> AS -> Prop} (hi:i < x.p.size) (hj:j < x.p.size) (h:∀ b:Bool,Runs L κ (fun f=>k f (some b)) c' x P'):Runs L κ (fun f=>ltAt' i j >>= k f) c' x P':=by
  refine Zr (ZnY hi hj) ?_
  rintro b x' rfl
  exact h b
theorem Za7 {x₀:AS} {i j:Nat} {γ δ:Type} {k:(Nat -> Keyed) -> PUnit -> StateT SortSt Sem γ} {c':(Nat -> Keyed) -> δ -> γ} {P':δ -> AS -> Prop} (h0:Sz x₀ x) (h:∀ x',Sz x₀ x' -> Runs L κ (fun f=>k f ⟨⟩) c' x' P'):Runs L κ (fun f=>reverseSlice' i j >>= k f) c' x P':=by
  refine Zr Zib ?_
  rintro ⟨⟩ x' hx
  exact h x' (h0.trans hx)
theorem Zmd {x₀:AS} {i j:Nat} {γ δ:Type} {k:(Nat -> Keyed) -> PUnit -> StateT SortSt Sem γ} {c':(Nat -> Keyed) -> δ -> γ} {P':δ -> AS -> Prop} (h0:Sz x₀ x) (h:∀ x',Sz x₀ x' -> Runs L κ (fun f=>k f ⟨⟩) c' x' P'):Runs L κ (fun f=>moveDown' i j >>= k f) c' x P':=by
  refine Zr ZnX ?_
  rintro ⟨⟩ x' hx
  exact h x' (h0.trans hx)
noncomputable abbrev SM:=StateT SortSt Sem
noncomputable abbrev CoT:=Option (Option Nat) × Nat
noncomputable abbrev CoD:=Option (Option Nat) × Nat × Nat
noncomputable def ascB (lo n:Nat):SM (ForInStep CoT):=ltAt' (lo + n) (lo + n - 1) >>= fun r=>match r with
  | some w=>if w = true then pure (.done (none,n)) else pure (.yield (none,n + 1))
  | _=>pure (.done (some none,n))
noncomputable def cEnd (s:CoT):SM (Option Nat):=match s.1 with
  | some r=>pure r
  | none=>pure (some s.2)
noncomputable def ZnR (lo nrem n:Nat):SM (Option Nat):=forIn [n:nrem] ((none,n):CoT) (fun _ s=>ascB lo s.2) >>= cEnd
noncomputable def ZnE (lo n q:Nat):SM (ForInStep CoD):=ltAt' (lo + n) (lo + n - 1) >>= fun r=>match r with
  | some w=>if w = true then (if q > 0 then reverseSlice' (lo + n - (q + 1)) (lo + n) >>= fun _=>pure (.yield (none,n + 1,0)) else pure (.yield (none,n + 1,0)))
    else ltAt' (lo + n - 1) (lo + n) >>= fun r=>match r with
      | some w=>if w = true then pure (.done (none,n,q)) else pure (.yield (none,n + 1,q + 1))
      | _=>pure (.done (some none,n,q))
  | _=>pure (.done (some none,n,q))
noncomputable def ZlG (lo nrem n:Nat):SM (Option Nat):=reverseSlice' lo (lo + n) >>= fun _=>ZnR lo nrem n
noncomputable def Zou (lo nrem:Nat) (s:CoD):SM (Option Nat):=match s.1 with
  | some r=>pure r
  | none=>if s.2.2 > 0 then reverseSlice' (lo + s.2.1 - (s.2.2 + 1)) (lo + s.2.1) >>= fun _=>ZlG lo nrem s.2.1 else ZlG lo nrem s.2.1
noncomputable def ZlF (lo nrem n:Nat):SM (Option Nat):=(liftM (rule "list.sort.descending-run"):SM Unit) >>= fun _=>forIn [n + 1:nrem] ((none,n + 1,0):CoD) (fun _ s=>ZnE lo s.2.1 s.2.2) >>= Zou lo nrem
noncomputable def cA (lo nrem:Nat) (s:CoT):SM (Option Nat):=match s.1 with
  | some r=>pure r
  | none=>if (s.2 == nrem) = true then pure (some s.2) else if s.2 > 1 then ltAt' lo (lo + s.2 - 1) >>= fun r=>(match r with
      | some w=>if w = true then pure (some s.2) else reverseSlice' lo (lo + s.2) >>= fun _=>ZlF lo nrem s.2
      | _=>pure none) else ZlF lo nrem s.2
noncomputable def cW (lo nrem:Nat):SM (Option Nat):=forIn [1:nrem] ((none,1):CoT) (fun _ s=>ascB lo s.2) >>= cA lo nrem
theorem ZoI (lo nrem:Nat):countRun' lo nrem = cW lo nrem:=by kernel_rfl
section
variable {x₀:AS} {lo nrem n:Nat}
noncomputable abbrev Cn (x₀:AS) (nrem n:Nat) (x':AS):Prop:=1 <= n /\ n <= nrem /\ Sz x₀ x'
theorem Zn4 (h:Cn x₀ nrem n x) (hz:lo + nrem <= x₀.p.size):Runs L κ (fun _=>forIn [n:nrem] ((none,n):CoT) (fun _ s=>ascB lo s.2)) (fun _ (n:Nat)=>(none,n)) x (fun m x'=>Cn x₀ nrem m x'):=by
  refine Zep (c:=fun _ (n:Nat)=>((none,n):CoT)) (P:=fun n x'=>Cn x₀ nrem n x') (fun r n x'=>1 <= n /\ n + r <= nrem /\ Sz x₀ x') _ ⟨h.1,by have:=h.2.1; lia,h.2.2⟩ (fun y r n x₁ hI=>?_) (fun n x₁ hI=>⟨hI.1,hI.2.1,hI.2.2⟩)
  refine e0a2 hI fun i1 i2 i3=>?_
  have:=i3.size
  refine Zcz (this ▸ (ar_b i2 hz).2) (this ▸ (ar_b i2 hz).1) fun b=>?_
  exact Zw (fun _=>Zf (.done n) (fun _=>rfl) ⟨i1,by lia,i3⟩) (fun _=>Zf (.yield (n + 1)) (fun _=>rfl) ⟨by lia,by lia,i3⟩)
theorem ZnV (h:Cn x₀ nrem n x) (hz:lo + nrem <= x₀.p.size):Runs L κ (fun _=>ZnR lo nrem n) (fun _ (m:Nat)=>some m) x (fun m x'=>Cn x₀ nrem m x'):=
  Zr (Zn4 h hz) fun m _ hx=>Zf m (fun _=>rfl) hx
theorem Zmk {q r:Nat} (h:1 <= n /\ n + (r + 1) <= nrem /\ Sz x₀ x) (hz:lo + nrem <= x₀.p.size):Runs L κ (fun _=>ZnE lo n q) (fun _=>Zo fun (n:Nat × Nat)=>((none,n):CoD)) x (fun s x'=>match s with | .done s=>Cn x₀ nrem s.1 x' | .yield s=>1 <= s.1 /\ s.1 + r <= nrem /\ Sz x₀ x'):=by
  refine e0a2 h fun i1 i2 i3=>?_
  have:=i3.size
  refine Zcz (this ▸ (ar_b i2 hz).2) (this ▸ (ar_b i2 hz).1) fun b=>?_
  have e1:1 <= n + 1 /\ n + 1 + r <= nrem:=by lia
  refine Zw (fun _=>Zw (fun _=>?_) (fun _=>?_)) (fun _=>?_)
  . exact Za7 i3 fun x' hx=>Zf (.yield (n + 1,0)) (fun _=>rfl) ⟨e1.1,e1.2,hx⟩
  . exact Zf (.yield (n + 1,0)) (fun _=>rfl) ⟨e1.1,e1.2,i3⟩
  . refine Zcz (this ▸ (ar_b i2 hz).1) (this ▸ (ar_b i2 hz).2) fun b=>?_
    exact Zw (fun _=>Zf (.done (n,q)) (fun _=>rfl) ⟨i1,by dsimp only; lia,i3⟩) (fun _=>Zf (.yield (n + 1,q + 1)) (fun _=>rfl) ⟨e1.1,e1.2,i3⟩)
theorem Zie (h:Cn x₀ nrem n x) (hz:lo + nrem <= x₀.p.size):Runs L κ (fun _=>ZlG lo nrem n) (fun _ (m:Nat)=>some m) x (fun m x'=>Cn x₀ nrem m x'):=
  Za7 h.2.2 fun _ hx=>ZnV ⟨h.1,h.2.1,hx⟩ hz
theorem Zid (h:1 <= n /\ n + 1 <= nrem /\ Sz x₀ x) (hz:lo + nrem <= x₀.p.size):Runs L κ (fun _=>ZlF lo nrem n) (fun _ (m:Nat)=>some m) x (fun m x'=>Cn x₀ nrem m x'):=by
  refine Zc5 (Zr (Zep (c:=fun _ (n:Nat × Nat)=>((none,n):CoD)) (P:=fun n x'=>Cn x₀ nrem n.1 x') (fun r n x'=>1 <= n.1 /\ n.1 + r <= nrem /\ Sz x₀ x') (n + 1,0) ⟨by dsimp only; lia,by dsimp only; lia,h.2.2⟩ (fun y r s x₁ hI=>?_) (fun n x₁ hI=>⟨hI.1,hI.2.1,hI.2.2⟩)) fun s x₁ hP=>?_)
  . obtain ⟨n,q⟩:=s
    exact Zbf (Zmk (n:=n) (q:=q) hI hz) fun s x' hs=>by cases s <;> exact hs
  . obtain ⟨n,q⟩:=s
    exact Zw (fun _=>Za7 hP.2.2 fun _ hx=>Zie ⟨hP.1,hP.2.1,hx⟩ hz) (fun _=>Zie hP hz)
end
theorem Zml {x₀:AS} {lo nrem:Nat} (h0:Sz x₀ x) (h1:1 <= nrem) (hz:lo + nrem <= x₀.p.size):Runs L κ (fun _=>countRun' lo nrem) (fun _ (m:Nat)=>some m) x (fun m x'=>1 <= m /\ m <= nrem /\ Sz x₀ x'):=by
  refine Zac (fun f=>ZoI lo nrem) ?_
  refine Zr (Zn4 ⟨Nat.le_refl _,h1,h0⟩ hz) fun n x₁ hn=>?_
  refine e0a2 hn fun i1 i2 i3=>?_
  refine Zw (fun _=>Zf n (fun _=>rfl) ⟨i1,i2,i3⟩) (fun hne=>?_)
  have hn1:n + 1 <= nrem:=by
    have:n ≠ nrem:=fun e=>hne (by rw [e]; exact beq_self_eq_true _)
    exact Nat.lt_of_le_of_ne i2 this
  have hs:=i3.size
  refine Zw (fun _=>Zcz (hs ▸ Nat.lt_of_le_of_lt (Nat.le_add_right lo n) (ar_b (r:=0) hn1 hz).2) (hs ▸ (ar_b (r:=0) hn1 hz).1) fun b=>Zw (fun _=>Zf n (fun _=>rfl) ⟨i1,i2,i3⟩) (fun _=>Za7 i3 fun x₂ hx=>Zid ⟨i1,hn1,hx⟩ hz)) (fun _=>Zid ⟨i1,hn1,i3⟩ hz)
theorem ZkL {α β:Type} {body:(Nat -> Keyed) -> Nat -> α -> StateT SortSt Sem (ForInStep α)} {c:(Nat -> Keyed) -> β -> α} (I:β -> AS -> Prop):∀ (l:List Nat) (b:β) (x:AS),I b x ->
    (∀ k ∈ l,∀ b x,I b x -> Runs L κ (fun f=>body f k (c f b)) (fun f=>Zo (c f)) x (fun r x'=>match r with | .done b'=>I b' x' | .yield b'=>I b' x')) ->
    Runs L κ (fun f=>forIn l (c f b) (body f)) c x I
  | [],b,x,h,_=>by
    refine Zac (fun f=>List.forIn_nil ..) ?_
    exact Zf b (fun _=>rfl) h
  | y :: l,b,x,h,step=>by
    refine Zac (fun f=>List.forIn_cons ..) ?_
    refine Zr (step y (.head _) b x h) ?_
    intro r x' h'
    cases r with
    | done b'=>exact Zf b' (fun _=>rfl) h'
    | yield b'=>exact ZkL I l b' x' h' fun k hk=>step k (.tail _ hk)
theorem ZbW {α β:Type} {a e:Nat} {body:(Nat -> Keyed) -> Nat -> α -> StateT SortSt Sem (ForInStep α)} {c:(Nat -> Keyed) -> β -> α} (I:β -> AS -> Prop) (b:β) (h0:I b x)
    (step:∀ k,a <= k -> k < e -> ∀ b x,I b x -> Runs L κ (fun f=>body f k (c f b)) (fun f=>Zo (c f)) x (fun r x'=>match r with | .done b'=>I b' x' | .yield b'=>I b' x')):Runs L κ (fun f=>forIn [a:e] (c f b) (body f)) c x I:=by
  have hsz:([a:e]:Std.Legacy.Range).size = e - a:=by simp [Std.Legacy.Range.size]
  refine Zac (m':=fun f=>forIn (List.range' a (e - a) 1) (c f b) (body f)) (fun f=>?_) (ZkL I _ b x h0 fun k hk=>?_)
  . rw [Std.Legacy.Range.forIn_eq_forIn_range']
    show forIn (List.range' a ([a:e]:Std.Legacy.Range).size 1) _ _ = _
    rw [hsz]
  . refine e0a1 (List.mem_range'_1.mp hk) fun h1 h2=>?_
    exact step k h1 (by lia)
theorem ZoQ {x₀:AS} {lo n ok:Nat} (h0:Sz x₀ x) (hz:lo + n <= x₀.p.size):Runs L κ (fun _=>binarySort' lo n ok) (fun _ (m:Bool)=>m) x (fun m x'=>m = true /\ Sz x₀ x'):=by
  refine Zac (fun f=>binarySort'_eq lo n ok) ?_
  dsimp only
  refine Zr (ZbW (c:=fun _ (_:Unit)=>(none,())) (fun _ x'=>Sz x₀ x') () h0 (fun k hk1 hk2 _ x₁ i3=>?_)) (fun _ x₁ i3=>Zf true (fun _=>rfl) ⟨rfl,i3⟩)
  refine Zr (ZbW (c:=fun _ (n:Nat × Nat)=>(none,n)) (fun n x'=>n.2 <= k /\ Sz x₀ x') (0,k) ⟨Nat.le_refl _,i3⟩ (fun y _ _ ⟨l,r⟩ x₂ ⟨j1,j2⟩=>?_)) (fun n x₂ ⟨_,j2⟩=>Zmd j2 fun x₃ h3=>Zf (.yield ()) (fun _=>rfl) h3)
  have:=j2.size
  dsimp only at j1
  refine Zw (fun _=>Zf (.done (l,r)) (fun _=>rfl) ⟨j1,j2⟩) (fun hlt=>?_)
  dsimp only at hlt
  refine Zcz (by lia) (by dsimp only; lia) fun b=>?_
  refine Zw (fun _=>Zf (.yield (l,(l + r) / 2)) (fun _=>rfl) ⟨by dsimp only; lia,j2⟩) (fun _=>Zf (.yield ((l + r) / 2 + 1,r)) (fun _=>rfl) ⟨by dsimp only; lia,j2⟩)
end
noncomputable def Zcp:Bool -> Keyed -> Array Keyed -> Nat -> Nat -> Nat -> StateT SortSt Sem (Option Nat):=sortPriv% PySem.Builtin.gallop
noncomputable def Zfz:Array Keyed -> Array Keyed -> StateT SortSt Sem (Array Keyed):=sortPriv% PySem.Builtin.mergeLo
noncomputable def ZfA:Array Keyed -> Array Keyed -> StateT SortSt Sem (Array Keyed):=sortPriv% PySem.Builtin.mergeHi
section
variable {L:Nat -> Nat -> Bool} {κ:SortKind} {x:AS}
theorem ZG {a:Array Nat} {i:Nat} {γ δ:Type} {k:(Nat -> Keyed) -> Keyed -> StateT SortSt Sem γ} {c':(Nat -> Keyed) -> δ -> γ} {P':δ -> AS -> Prop} (hi:i < a.size) (h:∀ j,Runs L κ (fun f=>k f (f j)) c' x P'):Runs L κ (fun f=>elem' (a.map f) i >>= k f) c' x P':=by
  refine Zr (Zic hi) ?_
  rintro b x' rfl
  exact h b
theorem Zk8:True:=by
  k_with "bey" =>
    (refine Zr (c:=fun _ (b:Bool)=>some b) (P:=fun _ x'=>x' = x) (ZG (by lia) fun j=>Zw (fun _=>R_lt) (fun _=>Zr R_lt (fun b x' e=>Zf (!b) (fun _=>rfl) e))) ?_
     rintro b x' rfl)
  k_with "gend" =>
    (refine Zr (ZbW (c:=fun _ (m:Nat × Nat)=>(none,m)) (fun m z=>m.2 <= n /\ z = x₂) (_,_) ⟨by dsimp only; lia,rfl⟩ (fun y _ _ ⟨lo,hi⟩ z ⟨i1,i2⟩=>by
      subst i2
      dsimp only at i1 ⊢
      refine Zw (fun _=>Zf (.done (lo,hi)) (fun _=>rfl) ⟨i1,rfl⟩) (fun hlt=>?_)
      refine Zr (c:=fun _ (b:Bool)=>some b) (P:=fun _ x'=>x' = z) (ZG (by lia) fun j=>Zw (fun _=>R_lt) (fun _=>Zr R_lt (fun b x' e=>Zf (!b) (fun _=>rfl) e))) ?_
      rintro b z₃ rfl
      exact Zw (fun _=>Zf (.yield (lo + (hi - lo) / 2 + 1,hi)) (fun _=>rfl) ⟨i1,rfl⟩) (fun _=>Zf (.yield (lo,lo + (hi - lo) / 2)) (fun _=>rfl) ⟨by dsimp only; lia,rfl⟩))) (fun ⟨lo,hi⟩ z ⟨i1,i2⟩=>Zf hi (fun _=>rfl) ⟨i1,i2⟩))
  trivial
theorem Za8 {left:Bool} {key:Nat} {arr:Array Nat} {base n hint:Nat} (hh:hint < n) (hz:base + n <= arr.size):Runs L κ (fun f=>Zcp left (f key) (arr.map f) base n hint) (fun _ (m:Nat)=>some m) x (fun m x'=>m <= n /\ x' = x):=by
  k_extra "bey"
  dsimp only
  refine Zw (fun _=>?_) (fun _=>?_)
  . refine Zr (ZbW (c:=fun _ (m:Nat × Nat)=>(none,m)) (fun _ x₂=>x₂ = x') (0,1) rfl (fun y _ _ ⟨l,o⟩ x i2=>?_)) (fun ⟨l,o⟩ x₂ i2=>?_)
    . subst i2
      dsimp only
      refine Zw (fun _=>Zf (.done (l,o)) (fun _=>rfl) rfl) (fun hlt=>?_)
      k_extra "bey"
      exact Zw (fun _=>Zf (.done (l,o)) (fun _=>rfl) rfl) (fun _=>Zf (.yield (o,2 * o + 1)) (fun _=>rfl) rfl)
    . subst i2
      dsimp only
      k_extra "gend"
  . refine Zr (ZbW (c:=fun _ (m:Nat × Nat)=>(none,m)) (fun _ x₂=>x₂ = x') (0,1) rfl (fun y _ _ ⟨l,o⟩ x i2=>?_)) (fun ⟨l,o⟩ x₂ i2=>?_)
    . subst i2
      dsimp only
      refine Zw (fun _=>Zf (.done (l,o)) (fun _=>rfl) rfl) (fun hlt=>?_)
      k_extra "bey"
      exact Zw (fun _=>Zf (.done (l,o)) (fun _=>rfl) rfl) (fun _=>Zf (.yield (o,2 * o + 1)) (fun _=>rfl) rfl)
    . subst i2
      dsimp only
      k_extra "gend"
end
section
noncomputable abbrev Mg (x x':AS):Prop:=∃ g,x' = ⟨x.p,x.pend,g⟩
noncomputable abbrev LoT (α τ:Type):=Option (Array α) × Array α × Nat × Nat × τ
noncomputable def loD {α:Type} (a b out:Array α) (ia ib:Nat):Array α:=out ++ a.extract ia ++ b.extract ib
noncomputable def loA {α:Type} (a b out:Array α) (ia ib:Nat):Array α:=out ++ b.extract ib ++ a.extract ia
noncomputable def ZeJ (g:Nat):SM PUnit:=modify fun st=>SortSt.mk' (kindOf st) (arrOf st) (pendingOf st) g (failedOf st)
noncomputable def lo1 (a b:Array Keyed) (mg:Nat) (out:Array Keyed) (ia ib ac bc:Nat):SM (ForInStep (LoT Keyed (Nat × Nat))):=
  elem' b ib >>= fun u=>elem' a ia >>= fun v=>lt' u v >>= fun r=>match r with
    | some w=>if w = true then elem' b ib >>= fun z=>if (ib + 1 == b.size) = true then pure (.done (some (loD a b (out.push z) ia (ib + 1)),out.push z,ia,ib + 1,0,bc + 1)) else if bc + 1 ≥ mg then pure (.done (none,out.push z,ia,ib + 1,0,bc + 1)) else pure (.yield (none,out.push z,ia,ib + 1,0,bc + 1))
      else elem' a ia >>= fun z=>if (ia + 1 + 1 == a.size) = true then pure (.done (some (loA a b (out.push z) (ia + 1) ib),out.push z,ia + 1,ib,ac + 1,0)) else if ac + 1 ≥ mg then pure (.done (none,out.push z,ia + 1,ib,ac + 1,0)) else pure (.yield (none,out.push z,ia + 1,ib,ac + 1,0))
    | _=>pure (.done (some (loD a b out ia ib),out,ia,ib,ac,bc))
noncomputable def loG3 (a b:Array Keyed) (mg ac bc:Nat) (out:Array Keyed) (ia ib:Nat):SM (ForInStep (LoT Keyed (Nat × Nat × Nat))):=
  elem' a ia >>= fun z=>if (ia + 1 + 1 == a.size) = true then pure (.done (some (loA a b (out.push z) (ia + 1) ib),out.push z,ia + 1,ib,mg,ac,bc))
    else if (decide (ac < 7) && decide (bc < 7)) = true then pure (.done (none,out.push z,ia + 1,ib,mg,ac,bc)) else pure (.yield (none,out.push z,ia + 1,ib,mg,ac,bc))
noncomputable def Zlh (a b:Array Keyed) (mg ac:Nat) (out:Array Keyed) (ia ib k:Nat):SM (ForInStep (LoT Keyed (Nat × Nat × Nat))):=
  if k > 0 then (if (ib + k == b.size) = true then pure (.done (some (loD a b (out ++ b.extract ib (ib + k)) ia (ib + k)),out ++ b.extract ib (ib + k),ia,ib + k,mg,ac,k)) else loG3 a b mg ac k (out ++ b.extract ib (ib + k)) ia (ib + k))
  else loG3 a b mg ac k out ia ib
noncomputable def loG2 (a b:Array Keyed) (mg ac bc:Nat) (out:Array Keyed) (ia ib:Nat):SM (ForInStep (LoT Keyed (Nat × Nat × Nat))):=
  elem' b ib >>= fun z=>if (ib + 1 == b.size) = true then pure (.done (some (loD a b (out.push z) ia (ib + 1)),out.push z,ia,ib + 1,mg,ac,bc))
    else elem' a ia >>= fun y=>Zcp true y b (ib + 1) (b.size - (ib + 1)) 0 >>= fun r=>match r with
      | some k=>Zlh a b mg ac (out.push z) ia (ib + 1) k
      | _=>pure (.done (some (loD a b (out.push z) ia (ib + 1)),out.push z,ia,ib + 1,mg,ac,bc))
noncomputable def Zli (a b:Array Keyed) (mg bc:Nat) (out:Array Keyed) (ia ib k:Nat):SM (ForInStep (LoT Keyed (Nat × Nat × Nat))):=
  if k > 0 then (if (ia + k + 1 == a.size) = true then pure (.done (some (loA a b (out ++ a.extract ia (ia + k)) (ia + k) ib),out ++ a.extract ia (ia + k),ia + k,ib,mg,k,bc)) else
    if (ia + k == a.size) = true then pure (.done (some (loD a b (out ++ a.extract ia (ia + k)) (ia + k) ib),out ++ a.extract ia (ia + k),ia + k,ib,mg,k,bc)) else loG2 a b mg k bc (out ++ a.extract ia (ia + k)) (ia + k) ib)
  else loG2 a b mg k bc out ia ib
noncomputable def loG1 (a b:Array Keyed) (mg ac bc:Nat) (out:Array Keyed) (ia ib:Nat):SM (ForInStep (LoT Keyed (Nat × Nat × Nat))):=
  ZeJ mg >>= fun _=>elem' b ib >>= fun y=>Zcp false y a ia (a.size - ia) 0 >>= fun r=>match r with
    | some k=>Zli a b mg bc out ia ib k
    | _=>pure (.done (some (loD a b out ia ib),out,ia,ib,mg,ac,bc))
noncomputable def lo2 (a b:Array Keyed) (mg ac bc:Nat) (out:Array Keyed) (ia ib:Nat):SM (ForInStep (LoT Keyed (Nat × Nat × Nat))):=
  if mg > 1 then loG1 a b (mg - 1) ac bc out ia ib else loG1 a b mg ac bc out ia ib
noncomputable def lo0b (r:LoT Keyed (Nat × Nat × Nat)):SM (ForInStep (LoT Keyed Nat)):=match r.1 with
  | some v=>pure (.done (some v,r.2.1,r.2.2.1,r.2.2.2.1,r.2.2.2.2.1))
  | none=>ZeJ (r.2.2.2.2.1 + 1) >>= fun _=>pure (.yield (none,r.2.1,r.2.2.1,r.2.2.2.1,r.2.2.2.2.1 + 1))
noncomputable def lo0a (a b:Array Keyed) (tot mg:Nat) (r:LoT Keyed (Nat × Nat)):SM (ForInStep (LoT Keyed Nat)):=match r.1 with
  | some v=>pure (.done (some v,r.2.1,r.2.2.1,r.2.2.2.1,mg))
  | none=>(liftM (rule "list.sort.gallop"):SM Unit) >>= fun _=>forIn [:tot] ((none,r.2.1,r.2.2.1,r.2.2.2.1,mg + 1,r.2.2.2.2.1,r.2.2.2.2.2):LoT Keyed (Nat × Nat × Nat)) (fun _ s=>lo2 a b s.2.2.2.2.1 s.2.2.2.2.2.1 s.2.2.2.2.2.2 s.2.1 s.2.2.1 s.2.2.2.1) >>= lo0b
noncomputable def lo0 (a b:Array Keyed) (tot mg:Nat) (out:Array Keyed) (ia ib:Nat):SM (ForInStep (LoT Keyed Nat)):=
  forIn [:tot] ((none,out,ia,ib,0,0):LoT Keyed (Nat × Nat)) (fun _ s=>lo1 a b mg s.2.1 s.2.2.1 s.2.2.2.1 s.2.2.2.2.1 s.2.2.2.2.2) >>= lo0a a b tot mg
noncomputable def loE (r:LoT Keyed Nat):SM (Array Keyed):=match r.1 with
  | some r=>pure r
  | none=>liftM (unsupported "internal:list.sort.merge-bound")
noncomputable def loW (a b:Array Keyed):SM (Array Keyed):=(liftM (rule "list.sort.merge-lo"):SM Unit) >>= fun _=>elem' b 0 >>= fun z=>
  if (1 == b.size) = true then pure (loD a b #[z] 0 1) else if (0 + 1 == a.size) = true then pure (loA a b #[z] 0 1) else
    (get:SM SortSt) >>= fun st=>forIn [:a.size + b.size] ((none,#[z],0,1,gallopOf st):LoT Keyed Nat) (fun _ s=>lo0 a b (a.size + b.size) s.2.2.2.2 s.2.1 s.2.2.1 s.2.2.2.1) >>= loE
theorem Zni (a b:Array Keyed):Zfz a b = loW a b:=by kernel_rfl
theorem Zcj (f:Nat -> Keyed) (a b o:Array Nat) (i j:Nat):loD (a.map f) (b.map f) (o.map f) i j = (loD a b o i j).map f:=by simp [loD]
theorem Zdi (f:Nat -> Keyed) (a b o:Array Nat) (i j:Nat):loA (a.map f) (b.map f) (o.map f) i j = (loA a b o i j).map f:=by simp [loA]
theorem Zay (f:Nat -> Keyed) (o:Array Nat) (j:Nat):(o.map f).push (f j) = (o.push j).map f:=by simp
theorem ZfN (f:Nat -> Keyed) (o a:Array Nat) (i j:Nat):o.map f ++ (a.map f).extract i j = (o ++ a.extract i j).map f:=by simp
noncomputable abbrev cO (f:Nat -> Keyed) {τ:Type} (b:LoT Nat τ):LoT Keyed τ:=(b.1.map (Array.map f),b.2.1.map f,b.2.2)
noncomputable def LoB {τ:Type} (a b:Array Nat) (N:Nat) (s:LoT Nat τ):Prop:=(s.2.2.1 + 1 < a.size /\ s.2.2.2.1 < b.size) /\ N <= s.2.2.1 + s.2.2.2.1
noncomputable def LoD {τ:Type} (a b:Array Nat) (N:Nat):ForInStep (LoT Nat τ) -> Prop
  | .done s=>s.1 = none -> LoB a b N s
  | .yield s=>s.1 = none /\ LoB a b N s
variable {L:Nat -> Nat -> Bool} {κ:SortKind} {x x₀:AS} {a b o:Array Nat} {ia ib mg ac bc N:Nat} {τ:Type} {u:τ}
theorem ZcA {v:(Nat -> Keyed) -> Array Keyed} {V:Array Nat} (hv:∀ f,v f = V.map f) {R:AS -> Prop} (hR:R x):Runs L κ (fun f=>(pure (.done (some (v f),o.map f,ia,ib,u)):SM (ForInStep (LoT Keyed τ)))) (fun f=>Zo (cO f)) x (fun r x'=>R x' /\ LoD a b N r):=
  Zf (.done (some V,o,ia,ib,u)) (fun f=>by rw [hv]; rfl) ⟨hR,fun h=>by exact nes h⟩
theorem Zih {R:AS -> Prop} (hR:R x) (h:(ia + 1 < a.size /\ ib < b.size) /\ N <= ia + ib):Runs L κ (fun f=>(pure (.done (none,o.map f,ia,ib,u)):SM (ForInStep (LoT Keyed τ)))) (fun f=>Zo (cO f)) x (fun r x'=>R x' /\ LoD a b N r):=
  Zf (.done (none,o,ia,ib,u)) (fun _=>rfl) ⟨hR,fun _=>h⟩
theorem Zfe {R:AS -> Prop} (hR:R x) (h:(ia + 1 < a.size /\ ib < b.size) /\ N <= ia + ib):Runs L κ (fun f=>(pure (.yield (none,o.map f,ia,ib,u)):SM (ForInStep (LoT Keyed τ)))) (fun f=>Zo (cO f)) x (fun r x'=>R x' /\ LoD a b N r):=
  Zf (.yield (none,o,ia,ib,u)) (fun _=>rfl) ⟨hR,rfl,h⟩
theorem Z7 {i j:Nat} (h:¬ (i == j) = true):¬ i = j:=fun e=>h (beq_iff_eq.mpr e)
theorem ZoO (h:(ia + 1 < a.size /\ ib < b.size) /\ N <= ia + ib + 1):Runs L κ (fun f=>lo1 (a.map f) (b.map f) mg (o.map f) ia ib ac bc) (fun f=>Zo (cO f)) x (fun r x'=>x' = x /\ LoD a b N r):=by
  obtain ⟨⟨i1,i2⟩,i3⟩:=h
  refine ZG i2 fun j=>ZG (by lia) fun j=>?_
  refine Zr R_lt ?_
  rintro w _ rfl
  refine Zw (fun _=>ZG i2 fun j=>?_) (fun _=>ZG (by lia) fun j=>?_)
  . simp only [Zay,Zcj,Array.size_map]
    exact Zw (fun _=>ZcA (fun _=>rfl) rfl) (fun q=>by
      have q:=Z7 q
      exact Zw (fun _=>Zih rfl (by lia)) (fun _=>Zfe rfl (by lia)))
  . simp only [Zay,Zdi,Array.size_map]
    exact Zw (fun _=>ZcA (fun _=>rfl) rfl) (fun q=>by
      have q:=Z7 q
      exact Zw (fun _=>Zih rfl (by lia)) (fun _=>Zfe rfl (by lia)))
theorem ZkF {R:AS -> Prop} (hR:R x) (h:(ia + 1 < a.size /\ ib < b.size) /\ N <= ia + ib + 1):Runs L κ (fun f=>loG3 (a.map f) (b.map f) mg ac bc (o.map f) ia ib) (fun f=>Zo (cO f)) x (fun r x'=>R x' /\ LoD a b N r):=by
  obtain ⟨⟨i1,i2⟩,i3⟩:=h
  refine ZG (by lia) fun j=>?_
  simp only [Zay,Zdi,Array.size_map]
  exact Zw (fun _=>ZcA (fun _=>rfl) hR) (fun q=>by
    have q:=Z7 q
    exact Zw (fun _=>Zih hR (by lia)) (fun _=>Zfe hR (by lia)))
theorem Zme {R:AS -> Prop} {k:Nat} (hR:R x) (hk:k <= b.size - ib) (h:(ia + 1 < a.size /\ ib < b.size) /\ N <= ia + ib + 1):Runs L κ (fun f=>Zlh (a.map f) (b.map f) mg ac (o.map f) ia ib k) (fun f=>Zo (cO f)) x (fun r x'=>R x' /\ LoD a b N r):=by
  unfold Zlh
  simp only [ZfN,Zcj,Array.size_map]
  refine Zw (fun _=>Zw (fun _=>ZcA (fun _=>rfl) hR) (fun q=>ZkF hR ?_)) (fun _=>ZkF hR h)
  have q:=Z7 q
  exact ⟨⟨h.1.1,Nat.lt_of_le_of_ne (Nat.add_comm k ib ▸ Nat.add_le_of_le_sub (Nat.le_of_lt h.1.2) hk) q⟩,Nat.le_trans h.2 (Nat.succ_le_succ (Nat.add_le_add_left (Nat.le_add_right ib k) ia))⟩
theorem ZkG {R:AS -> Prop} (hR:R x) (h:(ia + 1 < a.size /\ ib < b.size) /\ N <= ia + ib + 1):Runs L κ (fun f=>loG2 (a.map f) (b.map f) mg ac bc (o.map f) ia ib) (fun f=>Zo (cO f)) x (fun r x'=>R x' /\ LoD a b N r):=by
  obtain ⟨⟨i1,i2⟩,i3⟩:=h
  refine ZG i2 fun j=>?_
  simp only [Zay,Zcj,Array.size_map]
  refine Zw (fun _=>ZcA (fun _=>rfl) hR) (fun q=>ZG (by lia) fun j=>Zr (Za8 ?_ ?_) ?_)
  . have q:=Z7 q
    lia
  . lia
  . rintro k _ ⟨hk,rfl⟩
    have q:=Z7 q
    exact Zme hR hk (by lia)
theorem Zmf {R:AS -> Prop} {k:Nat} (hR:R x) (hk:k <= a.size - ia) (h:(ia + 1 < a.size /\ ib < b.size) /\ N <= ia + ib + 1):Runs L κ (fun f=>Zli (a.map f) (b.map f) mg bc (o.map f) ia ib k) (fun f=>Zo (cO f)) x (fun r x'=>R x' /\ LoD a b N r):=by
  unfold Zli
  simp only [ZfN,Zcj,Zdi,Array.size_map]
  refine Zw (fun _=>Zw (fun _=>ZcA (fun _=>rfl) hR) (fun q=>Zw (fun _=>ZcA (fun _=>rfl) hR) (fun q'=>ZkG hR ?_))) (fun _=>ZkG hR h)
  have q:=Z7 q
  have q':=Z7 q'
  exact ⟨⟨Nat.lt_of_le_of_ne (ar_c h.1.1 hk q') q,h.1.2⟩,Nat.le_trans h.2 (Nat.add_le_add_right (Nat.add_le_add_right (Nat.le_add_right ia k) ib) 1)⟩
theorem ZdG {γ δ:Type} {k:(Nat -> Keyed) -> PUnit -> SM γ} {c':(Nat -> Keyed) -> δ -> γ} {P':δ -> AS -> Prop} (g:Nat) (hm:Mg x₀ x) (h:∀ x',Mg x₀ x' -> Runs L κ (fun f=>k f ⟨⟩) c' x' P'):Runs L κ (fun f=>ZeJ g >>= k f) c' x P':=
  Zbu ⟨x.p,x.pend,g⟩ (fun _=>rfl) (h _ (by refine e1a0 hm fun q hqa=>?_; subst hqa; exact ⟨g,rfl⟩))
theorem ZkH (hm:Mg x₀ x) (h:(ia + 1 < a.size /\ ib < b.size) /\ N <= ia + ib):Runs L κ (fun f=>loG1 (a.map f) (b.map f) mg ac bc (o.map f) ia ib) (fun f=>Zo (cO f)) x (fun r x'=>Mg x₀ x' /\ LoD a b N r):=by
  obtain ⟨⟨i1,i2⟩,i3⟩:=h
  refine ZdG _ hm fun x' hm'=>ZG i2 fun j=>?_
  simp only [Array.size_map]
  refine Zr (Za8 (by lia) (by lia)) ?_
  rintro k _ ⟨hk,rfl⟩
  exact Zmf hm' hk (by lia)
theorem ZoN (hm:Mg x₀ x) (h:(ia + 1 < a.size /\ ib < b.size) /\ N <= ia + ib):Runs L κ (fun f=>lo2 (a.map f) (b.map f) mg ac bc (o.map f) ia ib) (fun f=>Zo (cO f)) x (fun r x'=>Mg x₀ x' /\ LoD a b N r):=
  Zw (fun _=>ZkH hm h) (fun _=>ZkH hm h)
noncomputable def LoQ (a b:Array Nat) (N:Nat):ForInStep (LoT Nat Nat) -> Prop
  | .done s=>s.1 ≠ none
  | .yield s=>s.1 = none /\ LoB a b N s
theorem ZnZ {s:LoT Nat (Nat × Nat × Nat)} (hm:Mg x₀ x) (h:s.1 = none -> LoB a b N s):Runs L κ (fun f=>lo0b (cO f s)) (fun f=>Zo (cO f)) x (fun r x'=>Mg x₀ x' /\ LoQ a b N r):=by
  obtain ⟨r,o,ia,ib,mg,ac,bc⟩:=s
  cases r with
  | some r=>exact Zf (.done (some r,o,ia,ib,mg)) (fun _=>rfl) ⟨hm,fun h=>by exact nes h⟩
  | none=>
    show Runs L κ (fun f=>ZeJ (mg + 1) >>= fun _=>(pure (.yield (none,o.map f,ia,ib,mg + 1)):SM (ForInStep (LoT Keyed Nat)))) _ _ _
    refine ZdG _ hm fun x' hm'=>?_
    exact Zf (.yield (none,o,ia,ib,mg + 1)) (fun _=>rfl) ⟨hm',rfl,h rfl⟩
theorem Zn0 {tot:Nat} {s:LoT Nat (Nat × Nat)} (hm:Mg x₀ x) (h:s.1 = none -> LoB a b N s):Runs L κ (fun f=>lo0a (a.map f) (b.map f) tot mg (cO f s)) (fun f=>Zo (cO f)) x (fun r x'=>Mg x₀ x' /\ LoQ a b N r):=by
  obtain ⟨r,o,ia,ib,ac,bc⟩:=s
  cases r with
  | some r=>exact Zf (.done (some r,o,ia,ib,mg)) (fun _=>rfl) ⟨hm,fun h=>by exact nes h⟩
  | none=>
    refine Zc5 ?_
    refine Zr (Zep (c:=fun f=>cO f (τ:=Nat × Nat × Nat)) (P:=fun s x'=>Mg x₀ x' /\ (s.1 = none -> LoB a b N s)) (fun _ s x'=>Mg x₀ x' /\ LoB a b N s) (none,o,ia,ib,mg + 1,ac,bc) ⟨hm,h rfl⟩ (fun y n s x' hI=>?_) (fun s x' hI=>⟨hI.1,fun _=>hI.2⟩)) (fun s x' hP=>ZnZ hP.1 hP.2)
    obtain ⟨r,o,ia,ib,mg,ac,bc⟩:=s
    show Runs L κ (fun f=>lo2 (a.map f) (b.map f) mg ac bc (o.map f) ia ib) _ _ _
    refine Zbf (ZoN hI.1 hI.2) fun r x' hr=>?_
    cases r with
    | done s=>exact hr
    | yield s=>exact ⟨hr.1,hr.2.2⟩
theorem ZoP (hm:Mg x₀ x) (h:(ia + 1 < a.size /\ ib < b.size) /\ N <= ia + ib + 1):Runs L κ (fun f=>lo0 (a.map f) (b.map f) (a.size + b.size) mg (o.map f) ia ib) (fun f=>Zo (cO f)) x (fun r x'=>Mg x₀ x' /\ LoQ a b N r):=by
  refine Zr (Zep (c:=fun f=>cO f (τ:=Nat × Nat)) (P:=fun s x'=>x' = x /\ (s.1 = none -> LoB a b N s)) (fun n s x'=>x' = x /\ (s.2.2.1 + 1 < a.size /\ s.2.2.2.1 < b.size) /\ N <= s.2.2.1 + s.2.2.2.1 + 1 /\ N + (a.size + b.size) <= s.2.2.1 + s.2.2.2.1 + 1 + n) (none,o,ia,ib,0,0) ?_ (fun y n s x' hI=>?_) (fun s x' hI=>?_)) (fun s x' hP=>?_)
  . exact ⟨rfl,h.1,h.2,by dsimp only; lia⟩
  . refine e0a3 hI fun hqa i1 i2 i3=>?_; subst hqa
    obtain ⟨r,o,ia,ib,ac,bc⟩:=s
    dsimp only at i1 i2 i3
    show Runs L κ (fun f=>lo1 (a.map f) (b.map f) mg (o.map f) ia ib ac bc) _ _ _
    refine Zbf (ZoO (N:=ia + ib + 1) ⟨i1,Nat.le_refl _⟩) fun r x' hr=>?_
    cases r with
    | done s'=>exact ⟨hr.1,fun e=>⟨(hr.2 e).1,by have:=(hr.2 e).2; lia⟩⟩
    | yield s'=>
      have:=hr.2.2.2
      exact ⟨hr.1,hr.2.2.1,by lia,by lia⟩
  . refine e0a3 hI fun hqa i1 i2 i3=>?_; subst hqa
    exact ⟨rfl,fun _=>⟨i1,by lia⟩⟩
  . refine e0a1 hP fun hqa i1=>?_; subst hqa
    exact Zn0 hm i1
theorem R_lo {a b:Array Nat} (ha:0 < a.size) (hb:0 < b.size):Runs L κ (fun f=>Zfz (a.map f) (b.map f)) (fun f (o:Array Nat)=>o.map f) x (fun _ x'=>Mg x x'):=by
  refine Zac (fun f=>Zni (a.map f) (b.map f)) ?_
  refine Zc5 ?_
  simp only [Array.size_map]
  refine ZG hb fun j=>?_
  have e1:∀ f:Nat -> Keyed,#[f j] = (#[j]:Array Nat).map f:=fun _=>by simp
  simp only [e1,Zcj,Zdi]
  refine Zw (fun _=>Zf _ (fun _=>rfl) ⟨_,rfl⟩) (fun h1=>Zw (fun _=>Zf _ (fun _=>rfl) ⟨_,rfl⟩) (fun h2=>?_))
  have q1:=Z7 h1
  have q2:=Z7 h2
  refine ZcM (Zr (Zep (c:=fun f=>cO f (τ:=Nat)) (P:=fun s x'=>Mg x x' /\ s.1 ≠ none) (fun n s x'=>Mg x x' /\ (s.2.2.1 + 1 < a.size /\ s.2.2.2.1 < b.size) /\ a.size + b.size + 1 <= s.2.2.1 + s.2.2.2.1 + n) (none,_,0,1,x.mg) ⟨⟨_,rfl⟩,by dsimp only; lia⟩ (fun y n s x' hI=>?_) (fun s x' hI=>?_)) (fun s x' hP=>?_))
  . refine e0a2 hI fun i1 i2 i3=>?_
    obtain ⟨r,o,ia,ib,mg⟩:=s
    dsimp only at i2 i3
    show Runs L κ (fun f=>lo0 (a.map f) (b.map f) (a.size + b.size) mg (o.map f) ia ib) _ _ _
    refine Zbf (ZoP (N:=ia + ib + 1) i1 ⟨i2,Nat.le_refl _⟩) fun r x' hr=>?_
    cases r with
    | done s'=>exact hr
    | yield s'=>
      have:=hr.2.2.2
      exact ⟨hr.1,hr.2.2.1,by lia⟩
  . have:=hI.2.1; have:=hI.2.2; lia
  . obtain ⟨r,s⟩:=s
    cases r with
    | none=>exact absurd rfl hP.2
    | some r=>exact Zf r (fun _=>rfl) hP.1
end
section
noncomputable abbrev HiT (α τ:Type):=Option (Array α) × Nat × Nat × Array α × τ
noncomputable def hiD {α:Type} (a b out:Array α) (na nb:Nat):Array α:=a.extract 0 na ++ b.extract 0 nb ++ out.reverse
noncomputable def hiF {α:Type} (a b out:Array α) (na nb:Nat):Array α:=b.extract 0 nb ++ a.extract 0 na ++ out.reverse
noncomputable def hi1 (a b:Array Keyed) (mg na nb:Nat) (out:Array Keyed) (ac bc:Nat):SM (ForInStep (HiT Keyed (Nat × Nat))):=
  elem' b (nb - 1) >>= fun u=>elem' a (na - 1) >>= fun v=>lt' u v >>= fun r=>match r with
    | some w=>if w = true then elem' a (na - 1) >>= fun z=>if (na - 1 == 0) = true then pure (.done (some (hiD a b (out.push z) (na - 1) nb),na - 1,nb,out.push z,ac + 1,0)) else if ac + 1 ≥ mg then pure (.done (none,na - 1,nb,out.push z,ac + 1,0)) else pure (.yield (none,na - 1,nb,out.push z,ac + 1,0))
      else elem' b (nb - 1) >>= fun z=>if (nb - 1 == 1) = true then pure (.done (some (hiF a b (out.push z) na (nb - 1)),na,nb - 1,out.push z,0,bc + 1)) else if bc + 1 ≥ mg then pure (.done (none,na,nb - 1,out.push z,0,bc + 1)) else pure (.yield (none,na,nb - 1,out.push z,0,bc + 1))
    | _=>pure (.done (some (hiD a b out na nb),na,nb,out,ac,bc))
noncomputable def hiG3 (a b:Array Keyed) (mg ac bc na nb:Nat) (out:Array Keyed):SM (ForInStep (HiT Keyed (Nat × Nat × Nat))):=
  elem' a (na - 1) >>= fun z=>if (na - 1 == 0) = true then pure (.done (some (hiD a b (out.push z) (na - 1) nb),na - 1,nb,out.push z,mg,ac,bc))
    else if (decide (ac < 7) && decide (bc < 7)) = true then pure (.done (none,na - 1,nb,out.push z,mg,ac,bc)) else pure (.yield (none,na - 1,nb,out.push z,mg,ac,bc))
noncomputable def Zly (a b:Array Keyed) (mg ac na nb:Nat) (out:Array Keyed) (at_:Nat):SM (ForInStep (HiT Keyed (Nat × Nat × Nat))):=
  if nb - at_ > 0 then (if (at_ == 1) = true then pure (.done (some (hiF a b (out ++ (b.extract at_ nb).reverse) na at_),na,at_,out ++ (b.extract at_ nb).reverse,mg,ac,nb - at_)) else
    if (at_ == 0) = true then pure (.done (some (hiD a b (out ++ (b.extract at_ nb).reverse) na at_),na,at_,out ++ (b.extract at_ nb).reverse,mg,ac,nb - at_)) else hiG3 a b mg ac (nb - at_) na at_ (out ++ (b.extract at_ nb).reverse))
  else hiG3 a b mg ac (nb - at_) na nb out
noncomputable def hiG2 (a b:Array Keyed) (mg ac bc na nb:Nat) (out:Array Keyed):SM (ForInStep (HiT Keyed (Nat × Nat × Nat))):=
  elem' b (nb - 1) >>= fun z=>if (nb - 1 == 1) = true then pure (.done (some (hiF a b (out.push z) na (nb - 1)),na,nb - 1,out.push z,mg,ac,bc))
    else elem' a (na - 1) >>= fun y=>Zcp true y b 0 (nb - 1) (nb - 1 - 1) >>= fun r=>match r with
      | some at_=>Zly a b mg ac na (nb - 1) (out.push z) at_
      | _=>pure (.done (some (hiD a b (out.push z) na (nb - 1)),na,nb - 1,out.push z,mg,ac,bc))
noncomputable def Zlz (a b:Array Keyed) (mg bc na nb:Nat) (out:Array Keyed) (at_:Nat):SM (ForInStep (HiT Keyed (Nat × Nat × Nat))):=
  if na - at_ > 0 then (if (at_ == 0) = true then pure (.done (some (hiD a b (out ++ (a.extract at_ na).reverse) at_ nb),at_,nb,out ++ (a.extract at_ na).reverse,mg,na - at_,bc)) else hiG2 a b mg (na - at_) bc at_ nb (out ++ (a.extract at_ na).reverse))
  else hiG2 a b mg (na - at_) bc na nb out
noncomputable def hiG1 (a b:Array Keyed) (mg ac bc na nb:Nat) (out:Array Keyed):SM (ForInStep (HiT Keyed (Nat × Nat × Nat))):=
  ZeJ mg >>= fun _=>elem' b (nb - 1) >>= fun y=>Zcp false y a 0 na (na - 1) >>= fun r=>match r with
    | some at_=>Zlz a b mg bc na nb out at_
    | _=>pure (.done (some (hiD a b out na nb),na,nb,out,mg,ac,bc))
noncomputable def hi2 (a b:Array Keyed) (mg ac bc na nb:Nat) (out:Array Keyed):SM (ForInStep (HiT Keyed (Nat × Nat × Nat))):=
  if mg > 1 then hiG1 a b (mg - 1) ac bc na nb out else hiG1 a b mg ac bc na nb out
noncomputable def hi0b (r:HiT Keyed (Nat × Nat × Nat)):SM (ForInStep (HiT Keyed Nat)):=match r.1 with
  | some v=>pure (.done (some v,r.2.1,r.2.2.1,r.2.2.2.1,r.2.2.2.2.1))
  | none=>ZeJ (r.2.2.2.2.1 + 1) >>= fun _=>pure (.yield (none,r.2.1,r.2.2.1,r.2.2.2.1,r.2.2.2.2.1 + 1))
noncomputable def hi0a (a b:Array Keyed) (tot mg:Nat) (r:HiT Keyed (Nat × Nat)):SM (ForInStep (HiT Keyed Nat)):=match r.1 with
  | some v=>pure (.done (some v,r.2.1,r.2.2.1,r.2.2.2.1,mg))
  | none=>(liftM (rule "list.sort.gallop"):SM Unit) >>= fun _=>forIn [:tot] ((none,r.2.1,r.2.2.1,r.2.2.2.1,mg + 1,r.2.2.2.2.1,r.2.2.2.2.2):HiT Keyed (Nat × Nat × Nat)) (fun _ s=>hi2 a b s.2.2.2.2.1 s.2.2.2.2.2.1 s.2.2.2.2.2.2 s.2.1 s.2.2.1 s.2.2.2.1) >>= hi0b
noncomputable def hi0 (a b:Array Keyed) (tot mg na nb:Nat) (out:Array Keyed):SM (ForInStep (HiT Keyed Nat)):=
  forIn [:tot] ((none,na,nb,out,0,0):HiT Keyed (Nat × Nat)) (fun _ s=>hi1 a b mg s.2.1 s.2.2.1 s.2.2.2.1 s.2.2.2.2.1 s.2.2.2.2.2) >>= hi0a a b tot mg
noncomputable def hiE (r:HiT Keyed Nat):SM (Array Keyed):=match r.1 with
  | some r=>pure r
  | none=>liftM (unsupported "internal:list.sort.merge-bound")
noncomputable def hiW (a b:Array Keyed):SM (Array Keyed):=(liftM (rule "list.sort.merge-hi"):SM Unit) >>= fun _=>elem' a (a.size - 1) >>= fun z=>
  if (a.size - 1 == 0) = true then pure (hiD a b #[z] (a.size - 1) b.size) else if (b.size == 1) = true then pure (hiF a b #[z] (a.size - 1) b.size) else
    (get:SM SortSt) >>= fun st=>forIn [:a.size + b.size] ((none,a.size - 1,b.size,#[z],gallopOf st):HiT Keyed Nat) (fun _ s=>hi0 a b (a.size + b.size) s.2.2.2.2 s.2.1 s.2.2.1 s.2.2.2.1) >>= hiE
theorem Zot (a b:Array Keyed):ZfA a b = hiW a b:=by kernel_rfl
end
section
theorem ZbE (f:Nat -> Keyed) (a b o:Array Nat) (i j:Nat):hiD (a.map f) (b.map f) (o.map f) i j = (hiD a b o i j).map f:=by simp [hiD]
theorem Zdn (f:Nat -> Keyed) (a b o:Array Nat) (i j:Nat):hiF (a.map f) (b.map f) (o.map f) i j = (hiF a b o i j).map f:=by simp [hiF]
theorem ZhM (f:Nat -> Keyed) (o a:Array Nat) (i j:Nat):o.map f ++ ((a.map f).extract i j).reverse = (o ++ (a.extract i j).reverse).map f:=by simp
noncomputable abbrev cP (f:Nat -> Keyed) {τ:Type} (b:HiT Nat τ):HiT Keyed τ:=(b.1.map (Array.map f),b.2.1,b.2.2.1,b.2.2.2.1.map f,b.2.2.2.2)
noncomputable def HBd {τ:Type} (a b:Array Nat) (N:Nat) (s:HiT Nat τ):Prop:=(1 <= s.2.1 /\ s.2.1 < a.size /\ 2 <= s.2.2.1 /\ s.2.2.1 <= b.size) /\ s.2.1 + s.2.2.1 <= N
noncomputable def HPD {τ:Type} (a b:Array Nat) (N:Nat):ForInStep (HiT Nat τ) -> Prop
  | .done s=>s.1 = none -> HBd a b N s
  | .yield s=>s.1 = none /\ HBd a b N s
variable {L:Nat -> Nat -> Bool} {κ:SortKind} {x x₀:AS} {a b o:Array Nat} {na nb mg ac bc N:Nat} {τ:Type} {u:τ}
theorem ZcE {v:(Nat -> Keyed) -> Array Keyed} {V:Array Nat} (hv:∀ f,v f = V.map f) {R:AS -> Prop} (hR:R x):Runs L κ (fun f=>(pure (.done (some (v f),na,nb,o.map f,u)):SM (ForInStep (HiT Keyed τ)))) (fun f=>Zo (cP f)) x (fun r x'=>R x' /\ HPD a b N r):=
  Zf (.done (some V,na,nb,o,u)) (fun f=>by rw [hv]; rfl) ⟨hR,fun h=>by exact nes h⟩
theorem ZiD {R:AS -> Prop} (hR:R x) (h:(1 <= na /\ na < a.size /\ 2 <= nb /\ nb <= b.size) /\ na + nb <= N):Runs L κ (fun f=>(pure (.done (none,na,nb,o.map f,u)):SM (ForInStep (HiT Keyed τ)))) (fun f=>Zo (cP f)) x (fun r x'=>R x' /\ HPD a b N r):=
  Zf (.done (none,na,nb,o,u)) (fun _=>rfl) ⟨hR,fun _=>h⟩
theorem Zfh {R:AS -> Prop} (hR:R x) (h:(1 <= na /\ na < a.size /\ 2 <= nb /\ nb <= b.size) /\ na + nb <= N):Runs L κ (fun f=>(pure (.yield (none,na,nb,o.map f,u)):SM (ForInStep (HiT Keyed τ)))) (fun f=>Zo (cP f)) x (fun r x'=>R x' /\ HPD a b N r):=
  Zf (.yield (none,na,nb,o,u)) (fun _=>rfl) ⟨hR,rfl,h⟩
theorem hi_l {na nb A B N:Nat} (h:(1 <= na /\ na < A /\ 2 <= nb /\ nb <= B) /\ na + nb <= N + 1) (q:¬ na - 1 = 0):(1 <= na - 1 /\ na - 1 < A /\ 2 <= nb /\ nb <= B) /\ na - 1 + nb <= N:=
  ⟨⟨Nat.pos_of_ne_zero q,Nat.lt_of_le_of_lt (Nat.sub_le _ _) h.1.2.1,h.1.2.2⟩,Nat.le_of_succ_le_succ (by rw [<- Nat.succ_add,Nat.succ_eq_add_one,Nat.sub_add_cancel h.1.1]; exact h.2)⟩
theorem hi_r {na nb A B N:Nat} (h:(1 <= na /\ na < A /\ 2 <= nb /\ nb <= B) /\ na + nb <= N + 1) (q:¬ nb - 1 = 1):(1 <= na /\ na < A /\ 2 <= nb - 1 /\ nb - 1 <= B) /\ na + (nb - 1) <= N:=
  ⟨⟨h.1.1,h.1.2.1,Nat.lt_of_le_of_ne (Nat.le_sub_of_add_le h.1.2.2.1) (Ne.symm q),Nat.le_trans (Nat.sub_le _ _) h.1.2.2.2⟩,Nat.le_of_succ_le_succ (by rw [<- Nat.add_succ,Nat.succ_eq_add_one,Nat.sub_add_cancel (Nat.le_of_succ_le h.1.2.2.1)]; exact h.2)⟩
theorem Zn2 (h:(1 <= na /\ na < a.size /\ 2 <= nb /\ nb <= b.size) /\ na + nb <= N + 1):Runs L κ (fun f=>hi1 (a.map f) (b.map f) mg na nb (o.map f) ac bc) (fun f=>Zo (cP f)) x (fun r x'=>x' = x /\ HPD a b N r):=by
  have h₀:=h
  obtain ⟨⟨i1,i2,i3,i4⟩,i5⟩:=h₀
  refine ZG (by lia) fun j=>ZG (by lia) fun j=>?_
  refine Zr R_lt ?_
  rintro w _ rfl
  refine Zw (fun _=>ZG (by lia) fun j=>?_) (fun _=>ZG (by lia) fun j=>?_)
  . simp only [Zay,ZbE]
    exact Zw (fun _=>ZcE (fun _=>rfl) rfl) (fun q=>by
      have q:=Z7 q
      exact Zw (fun _=>ZiD rfl (hi_l h q)) (fun _=>Zfh rfl (hi_l h q)))
  . simp only [Zay,Zdn]
    exact Zw (fun _=>ZcE (fun _=>rfl) rfl) (fun q=>by
      have q:=Z7 q
      exact Zw (fun _=>ZiD rfl (hi_r h q)) (fun _=>Zfh rfl (hi_r h q)))
theorem ZkI {R:AS -> Prop} (hR:R x) (h:(1 <= na /\ na < a.size /\ 2 <= nb /\ nb <= b.size) /\ na + nb <= N + 1):Runs L κ (fun f=>hiG3 (a.map f) (b.map f) mg ac bc na nb (o.map f)) (fun f=>Zo (cP f)) x (fun r x'=>R x' /\ HPD a b N r):=by
  have h₀:=h
  obtain ⟨⟨i1,i2,i3,i4⟩,i5⟩:=h₀
  refine ZG (by lia) fun j=>?_
  simp only [Zay,ZbE]
  exact Zw (fun _=>ZcE (fun _=>rfl) hR) (fun q=>by
    have q:=Z7 q
    exact Zw (fun _=>ZiD hR (hi_l h q)) (fun _=>Zfh hR (hi_l h q)))
theorem Zmi {R:AS -> Prop} {k:Nat} (hR:R x) (hk:k <= nb) (h:(1 <= na /\ na < a.size /\ 2 <= nb /\ nb <= b.size) /\ na + nb <= N + 1):Runs L κ (fun f=>Zly (a.map f) (b.map f) mg ac na nb (o.map f) k) (fun f=>Zo (cP f)) x (fun r x'=>R x' /\ HPD a b N r):=by
  unfold Zly
  simp only [ZhM,ZbE,Zdn]
  refine Zw (fun _=>Zw (fun _=>ZcE (fun _=>rfl) hR) (fun q=>Zw (fun _=>ZcE (fun _=>rfl) hR) (fun q'=>ZkI hR ?_))) (fun _=>ZkI hR h)
  have q:=Z7 q
  have q':=Z7 q'
  exact ⟨⟨h.1.1,h.1.2.1,Nat.lt_of_le_of_ne (Nat.pos_of_ne_zero (by assumption)) (Ne.symm (by assumption)),Nat.le_trans hk h.1.2.2.2⟩,Nat.le_trans (Nat.add_le_add_left hk na) h.2⟩
theorem ZkJ {R:AS -> Prop} (hR:R x) (h:(1 <= na /\ na < a.size /\ 2 <= nb /\ nb <= b.size) /\ na + nb <= N + 1):Runs L κ (fun f=>hiG2 (a.map f) (b.map f) mg ac bc na nb (o.map f)) (fun f=>Zo (cP f)) x (fun r x'=>R x' /\ HPD a b N r):=by
  obtain ⟨⟨i1,i2,i3,i4⟩,i5⟩:=h
  refine ZG (by lia) fun j=>?_
  simp only [Zay,ZbE,Zdn]
  refine Zw (fun _=>ZcE (fun _=>rfl) hR) (fun q=>ZG (by lia) fun j=>Zr (Za8 ?_ ?_) ?_)
  . have q:=Z7 q
    lia
  . lia
  . rintro k _ ⟨hk,rfl⟩
    have q:=Z7 q
    exact Zmi hR hk ⟨⟨i1,i2,Nat.lt_of_le_of_ne (Nat.le_sub_of_add_le i3) (Ne.symm q),Nat.le_trans (Nat.sub_le _ _) i4⟩,Nat.le_trans (Nat.add_le_add_left (Nat.sub_le _ _) na) i5⟩
theorem Zmj {R:AS -> Prop} {k:Nat} (hR:R x) (hk:k <= na) (h:(1 <= na /\ na < a.size /\ 2 <= nb /\ nb <= b.size) /\ na + nb <= N + 1):Runs L κ (fun f=>Zlz (a.map f) (b.map f) mg bc na nb (o.map f) k) (fun f=>Zo (cP f)) x (fun r x'=>R x' /\ HPD a b N r):=by
  unfold Zlz
  simp only [ZhM,ZbE]
  refine Zw (fun _=>Zw (fun _=>ZcE (fun _=>rfl) hR) (fun q=>ZkJ hR ?_)) (fun _=>ZkJ hR h)
  have q:=Z7 q
  exact ⟨⟨Nat.pos_of_ne_zero q,Nat.lt_of_le_of_lt hk h.1.2.1,h.1.2.2⟩,Nat.le_trans (Nat.add_le_add_right hk nb) h.2⟩
theorem ZkK (hm:Mg x₀ x) (h:(1 <= na /\ na < a.size /\ 2 <= nb /\ nb <= b.size) /\ na + nb <= N):Runs L κ (fun f=>hiG1 (a.map f) (b.map f) mg ac bc na nb (o.map f)) (fun f=>Zo (cP f)) x (fun r x'=>Mg x₀ x' /\ HPD a b N r):=by
  obtain ⟨⟨i1,i2,i3,i4⟩,i5⟩:=h
  refine ZdG _ hm fun x' hm'=>ZG (by lia) fun j=>Zr (Za8 (by lia) (by lia)) ?_
  rintro k _ ⟨hk,rfl⟩
  exact Zmj hm' hk (by lia)
theorem Zn1 (hm:Mg x₀ x) (h:(1 <= na /\ na < a.size /\ 2 <= nb /\ nb <= b.size) /\ na + nb <= N):Runs L κ (fun f=>hi2 (a.map f) (b.map f) mg ac bc na nb (o.map f)) (fun f=>Zo (cP f)) x (fun r x'=>Mg x₀ x' /\ HPD a b N r):=
  Zw (fun _=>ZkK hm h) (fun _=>ZkK hm h)
noncomputable def HQD (a b:Array Nat) (N:Nat):ForInStep (HiT Nat Nat) -> Prop
  | .done s=>s.1 ≠ none
  | .yield s=>s.1 = none /\ HBd a b N s
theorem Zmg {s:HiT Nat (Nat × Nat × Nat)} (hm:Mg x₀ x) (h:s.1 = none -> HBd a b N s):Runs L κ (fun f=>hi0b (cP f s)) (fun f=>Zo (cP f)) x (fun r x'=>Mg x₀ x' /\ HQD a b N r):=by
  obtain ⟨r,na,nb,o,mg,ac,bc⟩:=s
  cases r with
  | some r=>exact Zf (.done (some r,na,nb,o,mg)) (fun _=>rfl) ⟨hm,fun h=>by exact nes h⟩
  | none=>
    show Runs L κ (fun f=>ZeJ (mg + 1) >>= fun _=>(pure (.yield (none,na,nb,o.map f,mg + 1)):SM (ForInStep (HiT Keyed Nat)))) _ _ _
    refine ZdG _ hm fun x' hm'=>?_
    exact Zf (.yield (none,na,nb,o,mg + 1)) (fun _=>rfl) ⟨hm',rfl,h rfl⟩
theorem Zmh {tot:Nat} {s:HiT Nat (Nat × Nat)} (hm:Mg x₀ x) (h:s.1 = none -> HBd a b N s):Runs L κ (fun f=>hi0a (a.map f) (b.map f) tot mg (cP f s)) (fun f=>Zo (cP f)) x (fun r x'=>Mg x₀ x' /\ HQD a b N r):=by
  obtain ⟨r,na,nb,o,ac,bc⟩:=s
  cases r with
  | some r=>exact Zf (.done (some r,na,nb,o,mg)) (fun _=>rfl) ⟨hm,fun h=>by exact nes h⟩
  | none=>
    refine Zc5 ?_
    refine Zr (Zep (c:=fun f=>cP f (τ:=Nat × Nat × Nat)) (P:=fun s x'=>Mg x₀ x' /\ (s.1 = none -> HBd a b N s)) (fun _ s x'=>Mg x₀ x' /\ HBd a b N s) (none,na,nb,o,mg + 1,ac,bc) ⟨hm,h rfl⟩ (fun y n s x' hI=>?_) (fun s x' hI=>⟨hI.1,fun _=>hI.2⟩)) (fun s x' hP=>Zmg hP.1 hP.2)
    obtain ⟨r,na,nb,o,mg,ac,bc⟩:=s
    show Runs L κ (fun f=>hi2 (a.map f) (b.map f) mg ac bc na nb (o.map f)) _ _ _
    refine Zbf (Zn1 hI.1 hI.2) fun r x' hr=>?_
    cases r with
    | done s=>exact hr
    | yield s=>exact ⟨hr.1,hr.2.2⟩
theorem Zn3 (hm:Mg x₀ x) (h:(1 <= na /\ na < a.size /\ 2 <= nb /\ nb <= b.size) /\ na + nb <= N + 1):Runs L κ (fun f=>hi0 (a.map f) (b.map f) (a.size + b.size) mg na nb (o.map f)) (fun f=>Zo (cP f)) x (fun r x'=>Mg x₀ x' /\ HQD a b N r):=by
  refine Zr (Zep (c:=fun f=>cP f (τ:=Nat × Nat)) (P:=fun s x'=>x' = x /\ (s.1 = none -> HBd a b N s)) (fun n s x'=>x' = x /\ (1 <= s.2.1 /\ s.2.1 < a.size /\ 2 <= s.2.2.1 /\ s.2.2.1 <= b.size) /\ s.2.1 + s.2.2.1 <= N + 1 /\ s.2.1 + s.2.2.1 + (a.size + b.size) <= N + 1 + n) (none,na,nb,o,0,0) ?_ (fun y n s x' hI=>?_) (fun s x' hI=>?_)) (fun s x' hP=>?_)
  . exact ⟨rfl,h.1,h.2,by dsimp only; lia⟩
  . refine e0a3 hI fun hqa i1 i2 i3=>?_; subst hqa
    obtain ⟨r,na,nb,o,ac,bc⟩:=s
    dsimp only at i1 i2 i3
    show Runs L κ (fun f=>hi1 (a.map f) (b.map f) mg na nb (o.map f) ac bc) _ _ _
    refine Zbf (Zn2 (N:=na + nb - 1) ⟨i1,by lia⟩) fun r x' hr=>?_
    cases r with
    | done s'=>exact ⟨hr.1,fun e=>⟨(hr.2 e).1,by have:=(hr.2 e).2; lia⟩⟩
    | yield s'=>
      have:=hr.2.2.2
      exact ⟨hr.1,hr.2.2.1,by lia,by lia⟩
  . refine e0a3 hI fun hqa i1 i2 i3=>?_; subst hqa
    exact ⟨rfl,fun _=>⟨i1,by lia⟩⟩
  . refine e0a1 hP fun hqa i1=>?_; subst hqa
    exact Zmh hm i1
theorem R_hi {a b:Array Nat} (ha:0 < a.size) (hb:0 < b.size):Runs L κ (fun f=>ZfA (a.map f) (b.map f)) (fun f (o:Array Nat)=>o.map f) x (fun _ x'=>Mg x x'):=by
  refine Zac (fun f=>Zot (a.map f) (b.map f)) ?_
  refine Zc5 ?_
  simp only [Array.size_map]
  refine ZG (Nat.sub_lt ha Nat.one_pos) fun j=>?_
  have e1:∀ f:Nat -> Keyed,#[f j] = (#[j]:Array Nat).map f:=fun _=>by simp
  simp only [e1,ZbE,Zdn]
  refine Zw (fun _=>Zf _ (fun _=>rfl) ⟨_,rfl⟩) (fun h1=>Zw (fun _=>Zf _ (fun _=>rfl) ⟨_,rfl⟩) (fun h2=>?_))
  have q1:=Z7 h1
  have q2:=Z7 h2
  refine ZcM (Zr (Zep (c:=fun f=>cP f (τ:=Nat)) (P:=fun s x'=>Mg x x' /\ s.1 ≠ none) (fun n s x'=>Mg x x' /\ (1 <= s.2.1 /\ s.2.1 < a.size /\ 2 <= s.2.2.1 /\ s.2.2.1 <= b.size) /\ s.2.1 + s.2.2.1 + 1 <= n) (none,a.size - 1,b.size,_,x.mg) ⟨⟨_,rfl⟩,by dsimp only; exact ⟨⟨Nat.pos_of_ne_zero q1,Nat.sub_lt ha Nat.one_pos,Nat.lt_of_le_of_ne hb (Ne.symm q2),Nat.le_refl _⟩,by rw [Nat.add_right_comm,Nat.sub_add_cancel ha]; exact Nat.le_refl _⟩⟩ (fun y n s x' hI=>?_) (fun s x' hI=>?_)) (fun s x' hP=>?_))
  . refine e0a2 hI fun i1 i2 i3=>?_
    obtain ⟨r,na,nb,o,mg⟩:=s
    dsimp only at i2 i3
    show Runs L κ (fun f=>hi0 (a.map f) (b.map f) (a.size + b.size) mg na nb (o.map f)) _ _ _
    refine Zbf (Zn3 (N:=n - 1) i1 ⟨i2,Nat.le_trans (Nat.le_of_succ_le_succ i3) (Nat.le_add_of_sub_le (Nat.le_refl _))⟩) fun r x' hr=>?_
    cases r with
    | done s'=>exact hr
    | yield s'=>
      have:=hr.2.2.2
      exact ⟨hr.1,hr.2.2.1,by have:=hr.2.2.1; lia⟩
  . have:=hI.2.2; lia
  . obtain ⟨r,s⟩:=s
    cases r with
    | none=>exact absurd rfl hP.2
    | some r=>exact Zf r (fun _=>rfl) hP.1
end
noncomputable def Con:List (Nat × Nat × Nat) -> Nat -> Nat -> Prop
  | [],a,e=>a = e
  | (s,n,_) :: l,a,e=>s = a /\ 1 <= n /\ Con l (a + n) e
theorem Con.le:∀ {l:List (Nat × Nat × Nat)} {a e:Nat},Con l a e -> a <= e
  | [],_,_,h=>Nat.le_of_eq h
  | (_,_,_) :: _,_,_,⟨_,h2,h3⟩=>by have:=h3.le; lia
theorem Con.two {l:List (Nat × Nat × Nat)}:∀ {a e:Nat} (i:Nat),Con l a e -> i + 1 < l.length -> ∃ sa na pa sb nb pb,l[i]? = some (sa,na,pa) /\ l[i + 1]? = some (sb,nb,pb) /\ sa + na = sb /\ 1 <= na /\ 1 <= nb /\ sb + nb <= e /\ Con ((l.set i (sa,na + nb,pa)).eraseIdx (i + 1)) a e:=by
  induction l with
  | nil=>exact fun i _ h=>absurd h (Nat.not_lt_zero _)
  | cons p l ih=>
    obtain ⟨sa,na,pa⟩:=p
    intro a e i hc h
    have h1:=hc.1
    have h2:=hc.2.1
    have h3:=hc.2.2
    cases i with
    | zero=>
      cases l with
      | nil=>exact absurd h (Nat.lt_irrefl _)
      | cons q l=>
        obtain ⟨sb,nb,pb⟩:=q
        have h4:=h3.2.1
        have h5:=h3.2.2
        have h6:=h3.1
        refine ⟨sa,na,pa,sb,nb,pb,rfl,rfl,by lia,h2,h4,?_,?_⟩
        . have:=h5.le; lia
        . show Con ((sa,na + nb,pa) :: l) a e
          exact ⟨h1,by lia,by rw [<- Nat.add_assoc]; exact h5⟩
    | succ i=>
      obtain ⟨s1,n1,p1,s2,n2,p2,g1,g2,g3,g4,g5,g6,g7⟩:=ih i h3 (Nat.lt_of_succ_lt_succ h)
      exact ⟨s1,n1,p1,s2,n2,p2,g1,g2,g3,g4,g5,g6,h1,h2,g7⟩
theorem Con.snoc:∀ {l:List (Nat × Nat × Nat)} {a e n p:Nat},Con l a e -> 1 <= n -> Con (l ++ [(e,n,p)]) a (e + n)
  | [],a,e,n,p,h,hn=>⟨h.symm,hn,by rw [show a = e from h]; rfl⟩
  | (_,_,_) :: l,a,e,n,p,⟨h1,h2,h3⟩,hn=>⟨h1,h2,h3.snoc hn⟩
theorem Con.mod:∀ {l:List (Nat × Nat × Nat)} {a e:Nat} (i pw:Nat),Con l a e -> Con (l.modify i fun (st,len,_)=>(st,len,pw)) a e
  | [],_,_,i,_,h=>by cases i <;> exact h
  | (_,_,_) :: l,_,_,0,pw,⟨h1,h2,h3⟩=>⟨h1,h2,h3⟩
  | (_,_,_) :: l,_,_,i + 1,pw,⟨h1,h2,h3⟩=>⟨h1,h2,h3.mod i pw⟩
section
variable {L:Nat -> Nat -> Bool} {κ:SortKind} {x:AS}
theorem Zk1 {M:Model} {A:Around} {E:Value -> Shared -> Prop} {s:Shared} {st st':SortSt} {Q:PUnit -> SortSt -> Prop} (h:Q ⟨⟩ st'):wpS M A E s (set st':StateT SortSt Sem PUnit) Q st:=by
  unfold wpS
  show wpAny M A ((set st':StateT SortSt Sem PUnit).run st) _ E s
  exact wpAny_pure ⟨rfl,h⟩
theorem ZoM {g:(Nat -> Keyed) -> SortSt} {γ δ:Type} {k:(Nat -> Keyed) -> PUnit -> StateT SortSt Sem γ} {c':(Nat -> Keyed) -> δ -> γ} {P':δ -> AS -> Prop} (x₁:AS) (hg:∀ f,g f = cn κ f x₁) (h:Runs L κ (fun f=>k f ⟨⟩) c' x₁ P'):Runs L κ (fun f=>(set (g f):StateT SortSt Sem PUnit) >>= k f) c' x P':=by
  refine e2a1 h fun b x' hP h=>?_
  exact ⟨b,x',hP,fun prog w A E s f G Q hQ=>wpS_bind (Zk1 (by rw [hg]; exact h prog w A E s f G Q hQ))⟩
theorem Zdr (f:Nat -> Keyed) (k:Nat):∀ (l:List (Nat × Nat)) (a:Array Nat),(l.map (fun p=>(f p.1,p.2))).foldl (fun a p=>a.setIfInBounds (k + p.2) p.1) (a.map f) = (l.foldl (fun a p=>a.setIfInBounds (k + p.2) p.1) a).map f
  | [],_=>rfl
  | p :: l,a=>by
    show (l.map _).foldl _ ((a.map f).setIfInBounds (k + p.2) (f p.1)) = _
    rw [<- Array.map_setIfInBounds]
    exact Zdr f k l _
theorem Zcq (k:Nat):∀ (l:List (Nat × Nat)) (a:Array Nat),(l.foldl (fun a p=>a.setIfInBounds (k + p.2) p.1) a).size = a.size
  | [],_=>rfl
  | p :: l,a=>by
    show (l.foldl _ (a.setIfInBounds (k + p.2) p.1)).size = _
    rw [Zcq k l,Array.size_setIfInBounds]
theorem ZgO (f:Nat -> Keyed) (o:Array Nat):(o.map f).toList.zipIdx = o.toList.zipIdx.map (fun p=>(f p.1,p.2)):=by
  rw [Array.toList_map,List.zipIdx_map]; rfl
theorem Zeo {i n:Nat} (hp:Con x.pend.toList 0 n) (hn:n <= x.p.size) (hi:i + 1 < x.pend.size):Runs L κ (fun _=>mergeAt' i) (fun _ (b:Bool)=>b) x (fun b x'=>b = true /\ x'.p.size = x.p.size /\ Con x'.pend.toList 0 n /\ x'.pend.size + 1 = x.pend.size):=by
  refine ZcM ?_
  obtain ⟨sa,na,pa,sb,nb,pb,g1,g2,g3,g4,g5,g6,g7⟩:=hp.two i (by simpa using hi)
  rw [Array.getElem?_toList] at g1 g2
  dsimp only [cn,SortSt.mk']
  simp only [g1,g2]
  refine ZoM ⟨x.p,(x.pend.setIfInBounds i (sa,na + nb,pa)).eraseIdxIfInBounds (i + 1),x.mg⟩ (fun _=>rfl) ?_
  have e1:((x.pend.setIfInBounds i (sa,na + nb,pa)).eraseIdxIfInBounds (i + 1)).toList = (x.pend.toList.set i (sa,na + nb,pa)).eraseIdx (i + 1):=by simp
  have e2:((x.pend.setIfInBounds i (sa,na + nb,pa)).eraseIdxIfInBounds (i + 1)).size + 1 = x.pend.size:=by
    rw [<- Array.length_toList,e1,List.length_eraseIdx,List.length_set,if_pos (by simpa using hi),Array.length_toList]; lia
  rw [<- e1] at g7
  generalize (x.pend.setIfInBounds i (sa,na + nb,pa)).eraseIdxIfInBounds (i + 1) = pe at g7 e2 ⊢
  refine ZG (by lia) fun j=>?_
  refine Zr (Za8 (by lia) (by lia)) ?_
  rintro k _ ⟨hk,rfl⟩
  dsimp only
  refine Zw (fun _=>Zf true (fun _=>rfl) ⟨rfl,rfl,g7,e2⟩) (fun h1=>?_)
  rw [beq_iff_eq] at h1
  refine ZG (ar_a g3 h1 g5 g6 hn).2.2 fun j'=>?_
  refine Zr (Za8 (by lia) (by lia)) ?_
  rintro nb' _ ⟨hk',rfl⟩
  dsimp only
  refine Zw (fun _=>Zf true (fun _=>rfl) ⟨rfl,rfl,g7,e2⟩) (fun h2=>?_)
  rw [beq_iff_eq] at h2
  simp only [<- Array.map_extract]
  have s1:0 < (x.p.extract (sa + k) sb).size:=by rw [Array.size_extract]; exact Nat.sub_pos_of_lt (Nat.lt_min.mpr ⟨(ar_a g3 h1 g5 g6 hn).1,(ar_a g3 h1 g5 g6 hn).2.1⟩)
  have s2:0 < (x.p.extract sb (sb + nb')).size:=by rw [Array.size_extract]; exact Nat.sub_pos_of_lt (Nat.lt_min.mpr ⟨Nat.lt_add_of_pos_right (Nat.pos_of_ne_zero h2),Nat.lt_of_lt_of_le (Nat.lt_add_of_pos_right g5) (Nat.le_trans g6 hn)⟩)
  refine Zw (fun _=>?_) (fun _=>?_)
  . refine Zr (R_lo s1 s2) ?_
    rintro o _ ⟨g,rfl⟩
    refine Zbu ⟨o.toList.zipIdx.foldl (fun a p=>a.setIfInBounds (sa + k + p.2) p.1) x.p,pe,g⟩ (fun f=>?_) ?_
    . show SortSt.mk' κ ((o.map f).toList.zipIdx.foldl (fun a p=>a.setIfInBounds (sa + k + p.2) p.1) (x.p.map f)) pe g none = SortSt.mk' κ ((o.toList.zipIdx.foldl (fun a p=>a.setIfInBounds (sa + k + p.2) p.1) x.p).map f) pe g none
      rw [ZgO,Zdr]
    . refine ZcM (Zf true (fun _=>rfl) ⟨rfl,Zcq ..,g7,e2⟩)
  . refine Zr (R_hi s1 s2) ?_
    rintro o _ ⟨g,rfl⟩
    refine Zbu ⟨o.toList.zipIdx.foldl (fun a p=>a.setIfInBounds (sa + k + p.2) p.1) x.p,pe,g⟩ (fun f=>?_) ?_
    . show SortSt.mk' κ ((o.map f).toList.zipIdx.foldl (fun a p=>a.setIfInBounds (sa + k + p.2) p.1) (x.p.map f)) pe g none = SortSt.mk' κ ((o.toList.zipIdx.foldl (fun a p=>a.setIfInBounds (sa + k + p.2) p.1) x.p).map f) pe g none
      rw [ZgO,Zdr]
    . refine ZcM (Zf true (fun _=>rfl) ⟨rfl,Zcq ..,g7,e2⟩)
end
theorem Zjk (q:Prop) [Decidable q] (a:Nat):(if q then a - 1 else a) <= a:=by split <;> lia
noncomputable abbrev JP (n lo:Nat) (x:AS):Prop:=x.p.size = n /\ Con x.pend.toList 0 lo
section
variable {L:Nat -> Nat -> Bool} {κ:SortKind} {x:AS}
theorem JP.push {n lo r:Nat} (h:JP n lo x) (hr:1 <= r):JP n (lo + r) ⟨x.p,x.pend.push (lo,r,0),x.mg⟩:=
  ⟨h.1,by show Con (x.pend.push (lo,r,0)).toList 0 (lo + r); rw [Array.toList_push]; exact h.2.snoc hr⟩
theorem JP.mod {n lo k pw:Nat} (h:JP n lo x):JP n lo ⟨x.p,x.pend.modify k fun t=>(t.1,t.2.1,pw),x.mg⟩:=
  ⟨h.1,by show Con (x.pend.modify k fun t=>(t.1,t.2.1,pw)).toList 0 lo; rw [Array.toList_modify]; exact h.2.mod k pw⟩
noncomputable abbrev WT:=Option Unit × Unit
noncomputable abbrev WN:=Option Unit × Nat
noncomputable def ZgY (lo n:Nat):SM (ForInStep WN):=(modify fun s=>setPending s ((pendingOf s).push (lo,n,0)):SM PUnit) >>= fun _=>pure (.yield (none,lo + n))
noncomputable def srIn (pw:Nat):SM (ForInStep WT):=(get:SM SortSt) >>= fun s=>match if (pendingOf s).size > 1 then (pendingOf s)[(pendingOf s).size - 2]? else none with
  | some (_,_,older)=>if older <= pw then pure (.done (none,())) else mergeAt' ((pendingOf s).size - 2) >>= fun b=>if (!b) = true then pure (.done (some (),())) else pure (.yield (none,()))
  | _=>pure (.done (none,()))
noncomputable def Zon (lo n pw:Nat) (r:WT):SM (ForInStep WN):=match r.1 with
  | some r=>pure (.done (some r,lo))
  | none=>(modify fun s=>setPending s ((pendingOf s).modify ((pendingOf s).size - 1) fun (st,len,_)=>(st,len,pw)):SM PUnit) >>= fun _=>ZgY lo n
noncomputable def ZgZ (size lo n:Nat):SM (ForInStep WN):=(get:SM SortSt) >>= fun s=>match (pendingOf s).back? with
  | some (s1,n1,_)=>forIn [:size] ((none,()):WT) (fun _ _=>srIn (power' size (2 * s1 + n1) (2 * s1 + n1 + n1 + n) size)) >>= Zon lo n (power' size (2 * s1 + n1) (2 * s1 + n1 + n1 + n) size)
  | _=>ZgY lo n
noncomputable def Zm9 (size minrun lo:Nat):SM (ForInStep WN):=if lo ≥ size then pure (.done (none,lo)) else countRun' lo (size - lo) >>= fun r=>match r with
  | some n=>if n < minrun then (liftM (rule "list.sort.binary-insertion"):SM Unit) >>= fun _=>binarySort' lo (min (size - lo) minrun) n >>= fun b=>if (!b) = true then pure (.done (some (),lo)) else ZgZ size lo (min (size - lo) minrun)
    else ZgZ size lo n
  | _=>pure (.done (some (),lo))
noncomputable def Zna:SM (ForInStep WT):=(get:SM SortSt) >>= fun s=>if (pendingOf s).size <= 1 then pure (.done (none,())) else
  mergeAt' (if Option.any (fun x=>decide (x < (pendingOf s)[(pendingOf s).size - 2 + 1]?.elim 0 fun x=>x.2.1)) (if (pendingOf s).size - 2 > 0 then Option.map (fun x=>x.2.1) (pendingOf s)[(pendingOf s).size - 2 - 1]? else none) = true then (pendingOf s).size - 2 - 1 else (pendingOf s).size - 2) >>= fun b=>
    if (!b) = true then pure (.done (some (),())) else pure (.yield (none,()))
noncomputable def Zoo (size:Nat) (r:WN):SM Unit:=match r.1 with
  | some r=>pure r
  | none=>forIn [:size] ((none,()):WT) (fun _ _=>Zna) >>= fun r=>match r.1 with
    | some r=>pure r
    | none=>pure ()
noncomputable def srW:SM Unit:=(get:SM SortSt) >>= fun s=>forIn [:(arrOf s).size] ((none,0):WN) (fun _ r=>Zm9 (arrOf s).size (minRun' (arrOf s).size (arrOf s).size 0) r.2) >>= Zoo (arrOf s).size
theorem Zm8:sortRuns' = srW:=by kernel_rfl
noncomputable abbrev srP (n:Nat):ForInStep WN -> AS -> Prop
  | .done b,x=>b.1 = none /\ b.2 <= n /\ JP n b.2 x
  | .yield b,x=>b.1 = none /\ b.2 <= n /\ JP n b.2 x
theorem ZfW {n lo r:Nat} (h:JP n lo x) (hr:1 <= r) (hr2:lo + r <= n):Runs L κ (fun _=>ZgY lo r) (fun _=>Zo fun (b:WN)=>b) x (srP n):=
  Zbu ⟨x.p,x.pend.push (lo,r,0),x.mg⟩ (fun _=>rfl) (Zf (.yield (none,lo + r)) (fun _=>rfl) ⟨rfl,hr2,h.push hr⟩)
theorem ZnW {n lo pw:Nat} (h:JP n lo x) (hn:lo <= n):Runs L κ (fun _=>srIn pw) (fun _=>Zo fun (b:WT)=>b) x (fun r x'=>match r with | .done b=>b.1 = none /\ JP n lo x' | .yield b=>b.1 = none /\ JP n lo x'):=by
  refine ZcM ?_
  have hpe:∀ f:Nat -> Keyed,pendingOf (cn κ f x) = x.pend:=fun f=>rfl
  simp only [hpe]
  by_cases hp:x.pend.size > 1
  . simp only [if_pos hp]
    rcases x.pend[x.pend.size - 2]? with _ | ⟨s2,n2,p2⟩
    . exact Zf (.done (none,())) (fun _=>rfl) ⟨rfl,h⟩
    . refine Zw (fun _=>Zf (.done (none,())) (fun _=>rfl) ⟨rfl,h⟩) (fun _=>?_)
      refine Zr (Zeo h.2 (by rw [h.1]; lia) (by lia)) ?_
      rintro _ x₆ ⟨rfl,m1,m2,m3⟩
      refine Zw (fun h=>by exact ft h) (fun _=>?_)
      exact Zf (.yield (none,())) (fun _=>rfl) ⟨rfl,m1.trans h.1,m2⟩
  . simp only [if_neg hp]
    exact Zf (.done (none,())) (fun _=>rfl) ⟨rfl,h⟩
theorem ZfX {n lo r:Nat} (h:JP n lo x) (hr:1 <= r) (hr2:lo + r <= n):Runs L κ (fun _=>ZgZ n lo r) (fun _=>Zo fun (b:WN)=>b) x (srP n):=by
  refine ZcM ?_
  have hpe:∀ f:Nat -> Keyed,pendingOf (cn κ f x) = x.pend:=fun f=>rfl
  simp only [hpe]
  rcases x.pend.back? with _ | ⟨s1,n1,p1⟩
  . exact ZfW h hr hr2
  . refine Zr (ZbW (c:=fun _ (b:WT)=>b) (fun b x'=>b.1 = none /\ JP n lo x') (none,()) ⟨rfl,h⟩ (fun k hk1 hk2 b x₅ hb=>?_)) (fun b x₅ hb=>?_)
    . exact Zbf (ZnW hb.2 (by lia)) fun s x' hs=>by cases s <;> exact hs
    . obtain ⟨rr,_⟩:=b
      refine e0a1 hb fun l1 l2=>?_
      dsimp only at l1
      subst l1
      exact Zbu ⟨x₅.p,x₅.pend.modify (x₅.pend.size - 1) fun t=>(t.1,t.2.1,power' n (2 * s1 + n1) (2 * s1 + n1 + n1 + r) n),x₅.mg⟩ (fun _=>rfl) (ZfW l2.mod hr hr2)
theorem Zmb {n mr lo:Nat} (h:JP n lo x) (hn:lo <= n):Runs L κ (fun _=>Zm9 n mr lo) (fun _=>Zo fun (b:WN)=>b) x (srP n):=by
  refine Zw (fun _=>Zf (.done (none,lo)) (fun _=>rfl) ⟨rfl,hn,h⟩) (fun h1=>?_)
  refine Zr (Zml (Sz.refl _) (by lia) (by rw [h.1]; lia)) ?_
  rintro m x'' ⟨j1,j2,j3⟩
  have j4:JP n lo x'':=by refine e1a1 j3 fun q e hqa=>?_; subst hqa; exact ⟨e.trans h.1,h.2⟩
  refine Zw (fun hm=>Zc5 ?_) (fun hm=>ZfX j4 j1 (by lia))
  refine Zr (ZoQ (Sz.refl _) (by rw [j4.1]; lia)) ?_
  rintro _ x₃ ⟨rfl,j3⟩
  have j5:JP n lo x₃:=by refine e1a1 j3 fun q e hqa=>?_; subst hqa; exact ⟨e.trans j4.1,j4.2⟩
  exact Zw (fun h=>by exact ft h) (fun _=>ZfX j5 (by lia) (by lia))
theorem Zmc {n lo:Nat} (h:JP n lo x) (hn:lo <= n):Runs L κ (fun _=>Zna) (fun _=>Zo fun (b:WT)=>b) x (fun r x'=>match r with | .done b=>b.1 = none /\ JP n lo x' | .yield b=>b.1 = none /\ JP n lo x'):=by
  refine ZcM ?_
  have hpe:∀ f:Nat -> Keyed,pendingOf (cn κ f x) = x.pend:=fun f=>rfl
  simp only [hpe]
  refine Zw (fun _=>Zf (.done (none,())) (fun _=>rfl) ⟨rfl,h⟩) (fun hp=>?_)
  refine Zr (Zeo h.2 (by rw [h.1]; lia) (Nat.lt_of_le_of_lt (Nat.succ_le_succ (Zjk _ _)) (by lia))) ?_
  rintro _ x₆ ⟨rfl,m1,m2,m3⟩
  exact Zw (fun h=>by exact ft h) (fun _=>Zf (.yield (none,())) (fun _=>rfl) ⟨rfl,m1.trans h.1,m2⟩)
theorem ZgB (h0:x.pend = #[]):Runs L κ (fun _=>sortRuns') (fun _ (b:Unit)=>b) x (fun _ x'=>x'.p.size = x.p.size):=by
  refine Zac (fun f=>Zm8) ?_
  refine ZcM ?_
  have hz:∀ f:Nat -> Keyed,arrOf (cn κ f x) = x.p.map f:=fun f=>rfl
  simp only [hz,Array.size_map]
  have hJ:JP x.p.size 0 x:=⟨rfl,by rw [h0]; rfl⟩
  refine Zr (ZbW (c:=fun _ (b:WN)=>b) (fun b x'=>b.1 = none /\ b.2 <= x.p.size /\ JP x.p.size b.2 x') (none,0) ⟨rfl,Nat.zero_le _,hJ⟩ (fun k hk1 hk2 b x' hb=>?_)) (fun b x' hb=>?_)
  . exact Zbf (Zmb hb.2.2 hb.2.1) fun s x' hs=>by cases s <;> exact hs
  . obtain ⟨r,lo⟩:=b
    refine e0a2 hb fun i1 i2 i3=>?_
    dsimp only at i1 i2 i3
    subst i1
    refine Zr (ZbW (c:=fun _ (b:WT)=>b) (fun b x'=>b.1 = none /\ JP x.p.size lo x') (none,()) ⟨rfl,i3⟩ (fun k hk1 hk2 b x₅ hb=>?_)) (fun b x₅ hb=>?_)
    . exact Zbf (Zmc hb.2 i2) fun s x' hs=>by cases s <;> exact hs
    . obtain ⟨rr,_⟩:=b
      refine e0a1 hb fun l1 l2=>?_
      dsimp only at l1
      subst l1
      exact Zf () (fun _=>rfl) l2.1
end
noncomputable def Zeq (h:Heap) (v:Value) (p:Int × Int):Prop:=∃ (a:Addr) (o:Obj) (t u:Tok) (n:Nat),v = .ref a ∧ h.get? a = some o ∧ o.cls = .type "tuple" ∧ o.data = .seq #[.int p.1 t,.int p.2 u] n
inductive PairsAt (h:Heap):List Value -> List (Int × Int) -> Prop
  | nil:PairsAt h [] []
  | cons {v:Value} {p:Int × Int} {vs:List Value} {ps:List (Int × Int)}:Zeq h v p -> PairsAt h vs ps -> PairsAt h (v :: vs) (p :: ps)
theorem PairsAt.length {h:Heap} {vs:List Value} {ps:List (Int × Int)} (P:PairsAt h vs ps):vs.length = ps.length:=by
  induction P with
  | nil=>rfl
  | cons _ _ ih=>exact congrArg (· + 1) ih
theorem PairsAt.get {h:Heap} {vs:List Value} {ps:List (Int × Int)} (P:PairsAt h vs ps):∀ i,i < ps.length -> Zeq h (vs.getD i .none) (ps.getD i (0,0)):=by
  induction P with
  | nil=>intro i q; exact absurd q (Nat.not_lt_zero _)
  | cons a _ ih=>
    intro i q
    cases i with
    | zero=>exact a
    | succ i=>simpa using ih i (by simpa using q)
theorem PairsAt.mono {h h':Heap} (k:∀ a o,h.get? a = some o → o.cls = .type "tuple" → h'.get? a = some o) {vs:List Value} {ps:List (Int × Int)} (P:PairsAt h vs ps):PairsAt h' vs ps:=by
  induction P with
  | nil=>exact .nil
  | cons a _ ih=>
    refine e5a3 a fun a o t u n e g c d=>?_
    exact .cons ⟨a,o,t,u,n,e,k a o g c,c,d⟩ ih
theorem PairsAt.tups {h:Heap} {vs:List Value} {ps:List (Int × Int)} (P:PairsAt h vs ps):∃ fs:List Value,KatTups h vs fs /\ fs.length = ps.length /\ ∀ v ∈ fs,∃ i t,v = .int i t:=by
  induction P with
  | nil=>exact ⟨[],trivial,rfl,fun _ h=>nomatch h⟩
  | @cons _ p _ _ a _ ih=>
    refine e5a3 a fun a o t u n e g c d=>?_
    refine e1a2 ih fun fs h1 h2 h3=>?_
    refine ⟨.int p.1 t :: fs,⟨⟨a,o,_,n,e,g,c,d,rfl⟩,h1⟩,by simp [h2],fun v hv=>?_⟩
    rcases List.mem_cons.mp hv with rfl | hv
    . exact ⟨_,_,rfl⟩
    . exact h3 v hv
noncomputable def Zhc (x y:Int × Int):Bool:=if x.1 == y.1 then (if x.2 == y.2 then false else decide (x.2 < y.2)) else decide (x.1 < y.1)
theorem Zld {prog:Program} {w:World} {A:Around} {s:Shared} {v u:Value} {p q:Int × Int} (hv:Zeq s.heap v p) (hu:Zeq s.heap u q) {Q:Bool -> Shared -> Prop} {E:Value -> Shared -> Prop} (h:Q (Zhc p q) s) :
    wpAny (model prog w) A (keyLt' (tuples' true) v u) Q E s:=by
  refine e5a3 hv fun a o t1 t2 n hqa g c d=>?_; subst hqa
  refine e5a3 hu fun b o' t3 t4 n' hqa g' c' d'=>?_; subst hqa
  refine kat_lt g d g' d' ?_
  show KatLex prog w A true false Q [(.int p.1 t1,.int q.1 t3),(.int p.2 t2,.int q.2 t4)] 0 s
  unfold Zhc at h
  refine kat_cons (wpAny_eqBool_int (kat_go (fun e=>kat_yes ?_) (fun e=>kat_no ?_)))
  . rw [if_pos e] at h
    refine kat_cons (wpAny_eqBool_int (kat_go (fun e=>kat_yes ?_) (fun e=>kat_no ?_)))
    . rw [if_pos e] at h
      exact kat_nil h
    . rw [if_neg (by rw [e]; decide)] at h
      exact kat_one _ _ (P.lt_int h)
  . rw [if_neg (by rw [e]; decide)] at h
    exact oneLt_int h
noncomputable def ixN (n i:Nat):Nat:=if i < n then i else 0
theorem Zfm (vs:List Value):vs.toArray.zip vs.toArray = ((List.range vs.length).map fun i=>(vs.getD i .none,vs.getD i .none)).toArray:=by
  apply Array.ext
  . simp
  . intro i h1 h2
    have h3:i < vs.length:=by simpa using h2
    simp [h3]
theorem ZiR (ps:List (Int × Int)):∃ q:List Nat,q.length = ps.length /\ (∀ i ∈ q,i < ps.length) /\ ∀ (prog:Program) (w:World) (A:Around) (E:Value -> Shared -> Prop) (s:Shared) (vs:List Value) (Q:SortSt -> Shared -> Prop),PairsAt s.heap vs ps ->
    (∀ st,(arrOf st).map (·.2) = (q.map fun i=>vs.getD i .none).toArray -> failedOf st = none -> Q st s) ->
    wpAny (model prog w) A (if vs.toArray.size < 2 then pure general' else keyKind' vs.toArray) (fun kind s'=>
      wpAny (model prog w) A ((if vs.toArray.size < 2 then pure () else sortRuns').run (SortSt.mk' kind (vs.toArray.zip vs.toArray) #[] 7 none)) (fun r s''=>Q r.2 s'') E s') E s:=by
  by_cases h2:ps.length < 2
  . refine ⟨List.range ps.length,List.length_range,fun i hi=>List.mem_range.mp hi,fun prog w A E s vs Q hp h=>?_⟩
    have hl:=hp.length
    have hsz:vs.toArray.size < 2:=by rw [List.size_toArray,hl]; exact h2
    simp only [if_pos hsz]
    refine wpAny_pure ?_
    rw [StateT.run_pure]
    refine wpAny_pure (h _ ?_ rfl)
    show (vs.toArray.zip vs.toArray).map (·.2) = _
    rw [Zfm,hl]
    simp
  . have hr:ps.length - 1 + 1 = ps.length:=by lia
    obtain ⟨b,x',hx,hrun⟩:=ZgB (L:=fun i j=>Zhc (ps.getD (ixN ps.length i) (0,0)) (ps.getD (ixN ps.length j) (0,0))) (κ:=tuples' true) (x:=⟨(List.range ps.length).toArray,#[],7⟩) rfl
    have hx:x'.p.size = ps.length:=by rw [hx]; simp
    refine ⟨x'.p.toList.map (ixN ps.length),by rw [List.length_map,Array.length_toList,hx],fun i hi=>?_,fun prog w A E s vs Q hp h=>?_⟩
    . refine e1a1 (List.mem_map.mp hi) fun j _ hqa=>?_; subst hqa
      unfold ixN
      split <;> lia
    . have hl:=hp.length
      have hsz:¬ vs.toArray.size < 2:=by rw [List.size_toArray,hl]; exact h2
      simp only [if_neg hsz]
      refine e1a2 hp.tups fun fs t1 t2 t3=>?_
      refine kat_kind (T:=.type "int") t1 (by lia) (fun v hv=>?_) (by decide) ?_
      . refine e2a0 (t3 v hv) fun i t hqa=>?_; subst hqa
        exact Looks.of_pure rfl
      . have e1:(Value.type "int" != Value.type "tuple") = true:=by decide
        rw [e1]
        have hix:∀ i,ixN ps.length i < ps.length:=fun i=>by unfold ixN; split <;> lia
        have run:=hrun prog w A E s (fun i=>(vs.getD (ixN ps.length i) .none,vs.getD (ixN ps.length i) .none)) (fun i j C E h=>Zld (hp.get _ (hix i)) (hp.get _ (hix j)) h) (fun _ st=>Q st s) (h _ ?_ rfl)
        . have e2:cn (tuples' true) (fun i=>(vs.getD (ixN ps.length i) .none,vs.getD (ixN ps.length i) .none)) ⟨(List.range ps.length).toArray,#[],7⟩ = SortSt.mk' (tuples' true) (vs.toArray.zip vs.toArray) #[] 7 none:=by
            unfold cn
            rw [Zfm,hl]
            congr 1
            rw [List.map_toArray]
            congr 1
            exact List.map_congr_left fun i hi=>by simp only [ixN,if_pos (List.mem_range.mp hi)]
          rw [<- e2]
          exact wpAny_mono run (fun r s' hq=>by obtain ⟨rfl,hq⟩:=hq; exact hq) fun _ _ e=>e
        . show ((x'.p.map fun i=>(vs.getD (ixN ps.length i) Value.none,vs.getD (ixN ps.length i) Value.none)).map fun x:Keyed=>x.2) = _
          rw [Array.map_map,List.map_map]
          apply Array.toList_inj.mp
          simp
section
variable {prog:Program} {w:World} {A:Around} {E:Value -> Shared -> Prop} {s:Shared} {h₀:Heap} {L a:Addr} {m:Str -> Option Value} {news:List (Addr × Obj)} {vs:List Value}
theorem Zjj {α β:Type} {M:Model} {c:Prop} [Decidable c] {x y:Sem α} {f:α -> Sem β} {P:β -> Shared -> Prop} (h:wpAny M A ((if c then x else y) >>= f) P E s):wpAny M A (if c then x >>= f else y >>= f) P E s:=by
  split at h <;> rename_i hc
  . rw [if_pos hc]; exact h
  . rw [if_neg hc]; exact h
noncomputable def ZdE (ps:List (Int × Int)) (q:List Nat):Prop:=∀ (prog:Program) (w:World) (A:Around) (E:Value -> Shared -> Prop) (s:Shared) (vs:List Value) (Q:SortSt -> Shared -> Prop),PairsAt s.heap vs ps ->
    (∀ st,(arrOf st).map (·.2) = (q.map fun i=>vs.getD i .none).toArray -> failedOf st = none -> Q st s) ->
    wpAny (model prog w) A (if vs.toArray.size < 2 then pure general' else keyKind' vs.toArray) (fun kind s'=>
      wpAny (model prog w) A ((if vs.toArray.size < 2 then pure () else sortRuns').run (SortSt.mk' kind (vs.toArray.zip vs.toArray) #[] 7 none)) (fun r s''=>Q r.2 s'') E s') E s
theorem Zck {ps:List (Int × Int)} {q:List Nat} {n:Nat} {P:PySem.Fin → Shared → Prop} (hq:ZdE ps q) (hql:q.length = vs.length) (hz:vs.length ≤ 10000) (hp:PairsAt s.heap vs ps) (F:Fr h₀ L s.heap m) (N:News h₀ L s.heap news) (ho:s.heap.get? a = some (seqObj "list" vs.toArray n)) (haL:a ≠ L) (ha0:h₀.get? a = none) (hna:∀ p ∈ news,p.1 ≠ a)
    (h:∀ c2 h',Fr h₀ L h' m → News h₀ L h' ((a,seqObj "list" (q.map fun i=>vs.getD i .none).toArray c2) :: news) → P (.done (.ret .none)) { s with heap:=h' }) :
    wpAny (model prog w) A (Builtin.«list.sort» ⟨[.ref a],[]⟩) P E s:=by
  have ha:a < s.heap.objs.size:=Heap.lt_size ho
  have s1:=Heap.SameBut.update s.heap a (Obj.mapSeq fun _=>(#[]:Array Value))
  obtain ⟨e1,ho1⟩:∃ e1,(s.heap.update a (Obj.mapSeq fun _=>(#[]:Array Value))).get? a = some (seqObj "list" #[] e1):=⟨_,get?_update_seq ho fun _=>#[]⟩
  have F3:Fr h₀ L (((s.heap.update a (Obj.mapSeq fun _=>(#[]:Array Value))).push (seqObj "tuple" vs.toArray 0)).push (seqObj "list" #[] 0)) m:=((kas_fr F s1 haL ha0).push _).push _
  have N2:News h₀ L (((s.heap.update a (Obj.mapSeq fun _=>(#[]:Array Value))).push (seqObj "tuple" vs.toArray 0)).push (seqObj "list" #[] 0)) news:=
    (kas_news N s1 hna).grown fun b x e=>Heap.get?_push_of_some _ (Heap.get?_push_of_some _ e)
  have hoa:(((s.heap.update a (Obj.mapSeq fun _=>(#[]:Array Value))).push (seqObj "tuple" vs.toArray 0)).push (seqObj "list" #[] 0)).get? a = some (seqObj "list" #[] e1):=Heap.get?_push_of_some _ (Heap.get?_push_of_some _ ho1)
  have hp3:PairsAt (((s.heap.update a (Obj.mapSeq fun _=>(#[]:Array Value))).push (seqObj "tuple" vs.toArray 0)).push (seqObj "list" #[] 0)) vs ps:=hp.mono fun b o e c=>by
    have hb:b ≠ a:=fun e'=>by
      rw [e',ho] at e
      obtain rfl:=Option.some.inj e
      have c:Value.type "list" = Value.type "tuple" := c
      injection c with c
      exact absurd c (by decide)
    exact Heap.get?_push_of_some _ (Heap.get?_push_of_some _ ((s1.2 b hb).trans e))
  rw [list_sort_plain]
  refine wpAny_bind (listItems_at ho rfl ?_)
  refine wpAny_bind (listUpdate_at ho rfl ?_ (by rw [List.size_toArray,sizeLine_eq]; lia) (Nat.zero_le _))
  refine wpAny_bind (seqEpoch_at ho1 rfl ?_)
  refine wpAny_bind (wpAny_newTuple ?_ (by show vs.length <= _; rw [sizeLine_eq]; lia))
  refine wpAny_bind (wpAny_newList ?_ (Nat.zero_le _))
  refine wpAny_holding ?_
  show wpAny (model prog w) A _ P E { s with heap:=((s.heap.update a (Obj.mapSeq fun _=>(#[]:Array Value))).push (seqObj "tuple" vs.toArray 0)).push (seqObj "list" #[] 0) }
  dsimp only
  refine Zjj (wpAny_bind (wpAny_mono (hq prog w _ E { s with heap:=((s.heap.update a (Obj.mapSeq fun _=>(#[]:Array Value))).push (seqObj "tuple" vs.toArray 0)).push (seqObj "list" #[] 0) } vs (fun st s'=>s' = { s with heap:=((s.heap.update a (Obj.mapSeq fun _=>(#[]:Array Value))).push (seqObj "tuple" vs.toArray 0)).push (seqObj "list" #[] 0) } ∧ (arrOf st).map (·.2) = (q.map fun i=>vs.getD i .none).toArray ∧ failedOf st = none) hp3 fun st a1 a2=>⟨rfl,a1,a2⟩) (fun κ s0 hk=>?_) fun _ _ x=>x))
  refine wpAny_bind (wpAny_mono hk ?_ fun _ _ e=>e)
  rintro ⟨⟨⟩,st'⟩ s' ⟨rfl,hout,hf⟩
  dsimp only
  have hsz:(q.map fun i=>vs.getD i .none).toArray.size = vs.length:=by rw [List.size_toArray,List.length_map,hql]
  rw [hout]
  have s2:=Heap.SameBut.update (((s.heap.update a (Obj.mapSeq fun _=>(#[]:Array Value))).push (seqObj "tuple" vs.toArray 0)).push (seqObj "list" #[] 0)) a (Obj.mapSeq fun _=>(q.map fun i=>vs.getD i .none).toArray)
  obtain ⟨c2,hc2⟩:∃ c2,((((s.heap.update a (Obj.mapSeq fun _=>(#[]:Array Value))).push (seqObj "tuple" vs.toArray 0)).push (seqObj "list" #[] 0)).update a (Obj.mapSeq fun _=>(q.map fun i=>vs.getD i .none).toArray)).get? a = some (seqObj "list" (q.map fun i=>vs.getD i .none).toArray c2):=⟨_,get?_update_seq hoa fun _=>(q.map fun i=>vs.getD i .none).toArray⟩
  refine wpAny_bind (seqEpoch_at hoa rfl ?_)
  refine wpAny_bind (listUpdate_at hoa rfl ?_ (Nat.zero_le _) (Nat.le_trans (Nat.le_of_eq hsz) (by rw [sizeLine_eq]; lia)))
  rw [hf]
  simp only [bne_self_eq_false,Bool.false_eq_true,if_false]
  refine wpAny_pure (h c2 _ (kas_fr F3 s2 haL ha0) ?_)
  intro p hp'
  rcases List.mem_cons.mp hp' with rfl | hp'
  . exact ⟨hc2,haL,ha0⟩
  . exact kas_news N2 s2 hna p hp'
theorem ZdR {ps:List (Int × Int)} {q:List Nat} {l:Addr} {Q:Value -> Shared -> Prop} (hq:ZdE ps q) (hql:q.length = vs.length) (hz:vs.length <= 10000) (hp:PairsAt s.heap vs ps) (F:Fr h₀ L s.heap m) (N:News h₀ L s.heap news) (hl:s.heap.IsList l vs.toArray)
    (h:∀ D c2 h',Fr h₀ L h' m → News h₀ L h' ((D,seqObj "list" (q.map fun i=>vs.getD i .none).toArray c2) :: news) → (∀ q ∈ news,q.1 < D) → Q (.ref D) { s with heap:=h' }) :
    wpAny (model prog w) A (call (.builtin "sorted") [.ref l]) Q E s:=by
  refine Calls.call_function_entry kind_sorted plain_sorted entry_sorted (args_sorted1 _) ?_
  unfold Builtin.«sorted»
  refine wpAny_bind (m:=checkCount "sorted" 1 1 _) (wpAny_pure ?_)
  refine wpAny_bind (collect_list hl ?_ (by rw [sizeLine_eq]; lia))
  refine wpAny_bind (wpAny_newList ?_ (by rw [sizeLine_eq]; lia))
  have hsz:((s.heap.push (seqObj "list" #[] 0)).update s.heap.objs.size (Obj.mapSeq (· ++ vs.toArray))).objs.size = s.heap.objs.size + 1:=by
    rw [Heap.size_update,size_push']
  have hoL:(((s.heap.push (seqObj "list" #[] 0)).update s.heap.objs.size (Obj.mapSeq (· ++ vs.toArray))).push (seqObj "list" vs.toArray 0)).get? (s.heap.objs.size + 1) = some (seqObj "list" vs.toArray 0):=by
    rw [<- hsz]; exact Heap.get?_push_size _ rfl
  have keep:∀ b o,s.heap.get? b = some o → (((s.heap.push (seqObj "list" #[] 0)).update s.heap.objs.size (Obj.mapSeq (· ++ vs.toArray))).push (seqObj "list" vs.toArray 0)).get? b = some o:=fun b o q=>by
    have hlt:b < s.heap.objs.size:=Heap.lt_size q
    rw [Heap.get?_push_ne _ _ _ (by rw [hsz]; exact Nat.ne_of_lt (Nat.lt_succ_of_lt hlt)),Heap.get?_update_ne _ _ _ _ (Nat.ne_of_lt hlt),Heap.get?_push_ne _ _ _ (Nat.ne_of_lt hlt)]
    exact q
  have hL:L < s.heap.objs.size:=F.ns.lt
  show wpAny _ _ _ _ _ { s with heap:=((s.heap.push (seqObj "list" #[] 0)).update s.heap.objs.size (Obj.mapSeq (· ++ vs.toArray))).push (seqObj "list" vs.toArray 0) }
  rw [hsz]
  refine wpAny_bind (wpAny_holding (wpAny_call_entry slot_list_sort ⟨_,hoL,rfl⟩ entry_list_sort ?body (args_list_sort _)))
  case body=>
    refine Zck (s:={ s with heap:=((s.heap.push (seqObj "list" #[] 0)).update s.heap.objs.size (Obj.mapSeq (· ++ vs.toArray))).push (seqObj "list" vs.toArray 0) })
      hq hql hz (hp.mono fun b o e _=>keep b o e) (F.kept keep) (N.grown keep) hoL (Nat.ne_of_gt (Nat.lt_succ_of_lt hL)) (Heap.get?_none_of_le (Nat.le_trans F.above (Nat.le_succ_of_le (Nat.le_of_lt hL))))
      (fun p hp=>Nat.ne_of_lt (Nat.lt_succ_of_lt (Heap.lt_size (N p hp).1))) fun c2 h' F' N'=>?_
    exact ⟨_,rfl,wpAny_pure ⟨_,rfl,h _ c2 h' F' N' fun q hq=>Nat.lt_succ_of_lt (Heap.lt_size (N q hq).1)⟩⟩
end
theorem Zng {k:Int} {p:Int × Int} {r:List (Int × Int)}:mget k (p :: r) = if p.1 = k then p.2 else mget k r:=rfl
section
variable {fd:Fd} {W:Wd} {σ:St} {h:Heap}
theorem Zle {p:Int × Int} {v:Value} (R:RelF fd W σ h) (V:VRel W (ZO p) v):Zeq h v p:=by
  unfold ZO at V
  apply VRel.tup_e V; intro _ _ _ _ z c d r
  revert c d z
  apply VRels.cons_e r; intro _ _ a r
  apply VRels.cons_e r; intro _ _ b r
  apply VRels.nil_e r
  apply VRel.int_e a; intro _
  apply VRel.int_e b; intro _ z c d
  exact ⟨_,_,_,_,_,rfl,(R.frz _ z).1,c,d⟩
theorem ZiW (R:RelF fd W σ h):∀ {ps:List (Int × Int)} {vs:List Value},VRels W (ps.map ZO) vs -> PairsAt h vs ps:=fun {ps}=>by
  induction ps with
  | nil=>intro vs h; apply VRels.nil_e h; exact .nil
  | cons p ps ih=>intro vs h; apply VRels.cons_e h; intro v vs a r; exact .cons (Zle R a) (ih r)
theorem VRels.getD {W:Wd} {xs:List PV} {vs:List Value} (h:VRels W xs vs) {i:Nat} (hi:i < xs.length) (d:PV):VRel W (xs.getD i d) (vs.getD i .none):=by
  refine e1a1 (h.get (List.getElem?_eq_getElem hi)) fun y h1 h2=>?_
  rw [List.getD_eq_getElem?_getD,List.getElem?_eq_getElem hi,List.getD_eq_getElem?_getD,h1]
  exact h2
theorem VRels.at {W:Wd} {ps:List (Int × Int)} {vs:List Value} (h:VRels W (ps.map ZO) vs):∀ {q:List Nat},(∀ i ∈ q,i < ps.length) -> VRels W ((q.map fun i=>ps.getD i (0,0)).map ZO) (q.map fun i=>vs.getD i .none)
  | [],_=>.nil
  | i :: q,hq=>by
    have hi:=hq i (.head _)
    have:=h.getD (i:=i) (by rw [List.length_map]; exact hi) (ZO (0,0))
    refine .cons ?_ (VRels.at h fun j hj=>hq j (.tail _ hj))
    have e:(ps.map ZO).getD i (ZO (0,0)) = ZO (ps.getD i (0,0)):=by simp [List.getD_eq_getElem?_getD,hi]
    rw [<- e]; exact this
theorem ZcX (n:Nat) (ps:List (Int × Int)):PV.lims n (ps.map ZO) = true:=Zb3 (fun _=>rfl) ps
end
section
variable {C:Cx} {k:Nat} {fi:Fi} {σ σ₁ σ₂ σ₃ σ':St}
theorem ZcG {ps:List (Int × Int)} {q:List Nat} {H:List AObj} (hq:ZdE ps q) (hql:q.length = ps.length) (hqi:∀ i ∈ q,i < ps.length) (hz:ps.length <= 10000) :
    CallJ C k (.builtin "sorted") [.lst (ps.map ZO)] H (.lst ((q.map fun i=>ps.getD i (0,0)).map ZO)) H:=by
  intro fi loc cm ci cc fd W s vs Q E ok R V bk
  apply VRels.cons_e V; intro _ _ V1 V
  apply VRels.nil_e V
  apply VRel.lst_e V1; intro vs l n z r
  have hl:=Zv (R.frz _ z).1
  refine e1a1 R.fr fun m F lc=>?_
  have hlen:ps.length = vs.length:=by have:=VRels.length r; simpa using this
  refine ZdR hq (hql.trans hlen) (by lia) (ZiW R r) F R.news hl fun D c2 h' F' N' hlt=>?_
  refine e0a2 (R.newLst (xs:=(q.map fun i=>ps.getD i (0,0)).map ZO) F' lc N' (Zdh hlt) (r.at hqi)) fun l2 R3 V3=>?_
  exact bk _ _ h' _ l2 R3 V3
noncomputable def wrs (mem:List (Int × Int)):List (Int × Int):=(mem.filter fun q=>mget q.1 mem != 0).map fun q=>(q.1,mget q.1 mem)
theorem Zkr {mem:List (Int × Int)} {q:Int × Int} (hq:q ∈ mem):lkI q.1 (dI mem) = some (.int (mget q.1 mem)):=by
  induction mem with
  | nil=>cases hq
  | cons p r ih=>
    simp only [dI,List.map_cons,Zgf,Zng]
    by_cases h:p.1 = q.1
    . rw [if_pos h,if_pos h]
    . rw [if_neg h,if_neg h]
      rcases List.mem_cons.mp hq with rfl | hq
      . exact absurd rfl h
      . exact ih hq
theorem Zey {elt iter c:Expr} {x:Str} {px pos:Pos} {scope:Scope} {mem:List (Int × Int)} {d:Nat} {l:List (Str × PV)} {cm cc:List (Str × Nat)} {H:List AObj} (hd:H[d]? = some (.dict (dI mem))) (hcmp:fi.cmp = none)
    (h:∀ o,Ev C (k + 1) fi ⟨l,cm,H.set d (.fix (.dict (dI mem)) o),none,[]⟩ iter (.ref d) ⟨l,cm,H.set d (.fix (.dict (dI mem)) o),none,[]⟩) (hz:mem.length <= 100000)
    (hc:ccOk scope.names cm cc) (hs:Zbd scope = true) (hk:(kd { fi with cmp:=some scope }).lookup x = some .local)
    (turn:∀ (q:Int × Int) (o:Obj) (os:List Obj) (ys:List PV),q ∈ mem -> os.length = 1 ->
      Ts C (k + 1) { fi with cmp:=some scope } ⟨l,cm,H.set d (.fix (.dict (dI mem)) o) ++ os.map .raw ++ [.list ys,.ns [(x,.int q.1)]],some (H.length + os.length + 1),cc⟩ c (mget q.1 mem != 0) ⟨l,cm,H.set d (.fix (.dict (dI mem)) o) ++ os.map .raw ++ [.list ys,.ns [(x,.int q.1)]],some (H.length + os.length + 1),cc⟩ /\
      Ev C (k + 1) { fi with cmp:=some scope } ⟨l,cm,H.set d (.fix (.dict (dI mem)) o) ++ os.map .raw ++ [.list ys,.ns [(x,.int q.1)]],some (H.length + os.length + 1),cc⟩ elt (ZO (q.1,mget q.1 mem)) ⟨l,cm,H.set d (.fix (.dict (dI mem)) o) ++ os.map .raw ++ [.list ys,.ns [(x,.int q.1)]],some (H.length + os.length + 1),cc⟩)
    (hfs:∀ env x,foldedSetIterable iter env x = pure x:=by intro _ _; rfl) :
    EvN C (k + 1) fi ⟨l,cm,H,none,[]⟩ (.ListComp elt [⟨.Name x px,iter,[c],0⟩] scope pos) ((wrs mem).map ZO) ⟨l,cm,H,none,[]⟩:=by
  intro fd W s Q E ok R bk
  refine e2a4 (R.at (i:=d) hd) fun a o ha ho haL hab hor=>?_
  have hn:(.dict (dI mem):AObj) ≠ .dead:=by intro e; cases e
  have hdl:d < H.length:=(List.getElem?_eq_some_iff.mp hd).1
  have R1:Rl fd W ⟨l,cm,H.set d (.fix (.dict (dI mem)) o),none,[]⟩ s.heap:=R.holdRaw ha hd hn ho (.fix (.dict (dI mem)) o) (.fix hor) (fun _=>rfl)
  have hfix:(H.set d (.fix (.dict (dI mem)) o))[d]? = some (.fix (.dict (dI mem)) o):=List.getElem?_set_self hdl
  refine e0a2 (Zbt hs) fun h1 h2 h3=>?_
  have base:EvN C (k + 1) fi ⟨l,cm,H.set d (.fix (.dict (dI mem)) o),none,[]⟩ (.ListComp elt [⟨.Name x px,iter,[c],0⟩] scope pos) ((wrs mem).map ZO) ⟨l,cm,H.set d (.fix (.dict (dI mem)) o),none,[]⟩:=by
    refine Zf1 fun lH lL lC=>?_
    have hlen:((dI mem).map fun e=>PV.int e.1).length = mem.length:=by simp [dI]
    have:=Zf2 (C:=C) (k:=k) (fi:=fi) (elt:=elt) (pos:=pos) (iter:=iter) (ifs:=[c]) (scope:=scope) (target:=.Name x px) (σ:=⟨l,cm,H.set d (.fix (.dict (dI mem)) o),none,[]⟩) (σ₁:=⟨l,cm,H.set d (.fix (.dict (dI mem)) o),none,[]⟩) (p:=.ref d) (H0:=H.set d (.fix (.dict (dI mem)) o)) (cc:=cc) (loc':=l) (items:=(dI mem).map fun e=>PV.int e.1) (m:=1) (fun i=>(((mem.take i).filter fun q=>mget q.1 mem != 0).map fun q=>(q.1,mget q.1 mem)).map ZO) hcmp (h o) (.dict hfix) (.name _ _) hc.1 hc.2 h1 h2 h3 rfl (fun i=>by
        rw [List.length_map,List.length_map]
        exact Nat.le_trans (List.length_filter_le _ _) (by rw [List.length_take]; lia)) (ZcX _ _) lH lL (fun _ _ e=>e) rfl rfl lC (Nat.le_refl _) (fun i q hq os ho=>by
      have hi:i < mem.length:=by have:=(List.getElem?_eq_some_iff.mp hq).1; rwa [hlen] at this
      have eq:q = .int mem[i].1:=by
        have:=(List.getElem?_eq_some_iff.mp hq).2
        rw [<- this]; simp [dI]
      subst eq
      obtain ⟨t1,t2⟩:=turn mem[i] o os ((((mem.take i).filter fun q=>mget q.1 mem != 0).map fun q=>(q.1,mget q.1 mem)).map ZO) (List.getElem_mem _) ho
      have et:mem.take (i + 1) = mem.take i ++ [mem[i]]:=(List.take_append_getElem hi).symm
      refine ⟨[(x,.int mem[i].1)],mget mem[i].1 mem != 0,Zfl hk,.one ?_,fun hb=>⟨ZO (mem[i].1,mget mem[i].1 mem),?_,?_⟩,fun hb=>?_⟩
      . rw [show H.length = (H.set d (.fix (.dict (dI mem)) o)).length by simp] at t1; exact t1
      . simp only [et,List.filter_append,List.map_append,List.filter_cons,hb,if_true,List.filter_nil]; rfl
      . rw [show H.length = (H.set d (.fix (.dict (dI mem)) o)).length by simp] at t2; exact t2
      . simp only [et,List.filter_append,List.map_append,List.filter_cons,hb,Bool.false_eq_true,if_false,List.filter_nil]; simp) hfs
    rw [hlen,List.take_length] at this
    exact this
  refine base fd W s Q E ok R1 fun W' D vs n h' tk' lw R' hD hDL hDb hDa V=>?_
  refine e2a4 (R'.at hfix) fun a' o' ha' ho' haL' hab' hor'=>?_
  have R2:=R'.holdRaw ha' hfix (by intro e; cases e) ho' (.dict (dI mem)) (by cases hor' with | fix h=>exact h) (fun _=>rfl)
  have e:(H.set d (.fix (.dict (dI mem)) o)).set d (.dict (dI mem)) = H:=by
    rw [List.set_set]
    apply List.ext_getElem?; intro i
    by_cases e:d = i
    . subst e; rw [List.getElem?_set_self hdl,hd]
    . rw [List.getElem?_set_ne e]
  have R2:Rl fd W' ⟨l,cm,(H.set d (.fix (.dict (dI mem)) o)).set d (.dict (dI mem)),none,[]⟩ h':=R2
  rw [e] at R2
  exact bk W' D vs n h' tk' lw R2 hD hDL hDb hDa V
end
theorem walk_base:True:=by
  k_with_none
  k_with "om" =>
    first
      | with_reducible exact nabN (by omega)
      | (with_reducible refine nab ?_ ?_ <;> omega)
      | omega
  k_with "lkN" =>
    first
      | with_reducible exact Zi1
      | (with_reducible apply Zhm; kernel_rfl; k_extra "lkN")
  k_with "lk" =>
    first
      | with_reducible exact ZeP
      | (with_reducible apply lk_1; kernel_rfl)
      | (with_reducible apply lk_2; kernel_rfl)
      | (with_reducible apply lk_3; kernel_rfl; k_extra "lk")
  k_with "stl" =>
    first
      | with_reducible exact Zk6
      | with_reducible exact ZiQ
      | (with_reducible apply ZgW; kernel_rfl; k_extra "stl")
  k_with "hget1" =>
    first
      | with_reducible assumption
      | with_reducible exact Zdp
      | with_reducible exact Zjn
      | with_reducible exact Zom
  k_with "hget" =>
    first
      | k_extra "hget1"
      | with_reducible rfl
      | with_reducible exact Zbl
      | (with_reducible apply ZK; first | k_extra "hget1" | (with_reducible apply ZK; first | k_extra "hget1" | (with_reducible apply ZK; k_extra "hget1")))
  k_with "hand" =>
    first
      | exact Handed.int | exact Handed.str | exact Handed.ref | exact Handed.obj | exact Handed.none | exact Handed.bool | exact Handed.tup | exact Handed.lst | with_reducible assumption
  k_with "call" =>
    with_reducible assumption
  k_with "bin" =>
    first
      | exact ZiL | exact ZmT | refine' ZmY ?_ | refine' ZiI ?_ | refine' ZiJ ?_ ?_ | refine' ZmV ?_ ?_ | refine' ZmU ?_ | exact ZiK | exact Zoi | exact ZmS | refine' ZmX ?_ ?_ ?_ | refine' ZmZ ?_
  k_with "cmp" =>
    first
      | exact ZmR | exact Zfi | exact ZmN | exact ZmO | exact ZmP | exact ZmQ | exact ZmL | exact ZgJ | exact ZgK | exact ZeB | exact ZeC
  k_with "ga" =>
    first
      | exact Ga_o (by assumption) (by k_extra "lk") (by kernel_rfl) (by kernel_rfl) (by k_extra "hand")
      | exact Ga_i (by assumption) (by k_extra "hget") (by k_extra "hget") (by k_extra "lk") (by kernel_rfl) (by kernel_rfl) (by k_extra "hand")
  k_with "name" =>
    first
      | exact ZmF (by k_extra "lk") (by kernel_rfl!)
      | refine' ZmH (by rfl) (by k_extra "hget") (by k_extra "lk") (by rfl) (by kernel_rfl) (by kernel_rfl)
      | refine' ZjV (by k_extra "lkN") (by k_extra "hget") (by rfl) (by kernel_rfl) (by kernel_rfl)
      | refine' ZmI (by k_extra "lkN") (by k_extra "hget") (by rfl) (by kernel_rfl) (by kernel_rfl)
      | ((with_reducible show Ev _ _ _ _ (Expr.Name (Str.ofString "ALL_LANES") _) _ _); refine' ZoZ (by assumption) (by kernel_rfl))
      | refine' ZoY (by assumption) (by kernel_rfl) (by kernel_rfl) (by kernel_rfl)
  k_with "callname" =>
    first
      | ((with_reducible show Ev _ _ _ _ (Expr.Call (Expr.Name (Str.ofString "range") _) _ _ _) _ _); refine' Zan (v:=.type "range") (by assumption) (by kernel_rfl) (by kernel_rfl) (by kernel_rfl) (by kernel_rfl) (by kernel_rfl) Z4 ?_ ?_)
      | ((with_reducible show Ev _ _ _ _ (Expr.Call (Expr.Name (Str.ofString "len") _) _ _ _) _ _); refine' Zan (v:=.builtin "len") (by assumption) (by kernel_rfl) (by kernel_rfl) (by kernel_rfl) (by kernel_rfl) (by kernel_rfl) Zah ?_ ?_)
      | ((with_reducible show Ev _ _ _ _ (Expr.Call (Expr.Name (Str.ofString "list") _) _ _ _) _ _); refine' Zan (v:=.type "list") (by assumption) (by kernel_rfl) (by kernel_rfl) (by kernel_rfl) (by kernel_rfl) (by kernel_rfl) Z4 ?_ ?_)
      | ((with_reducible show Ev _ _ _ _ (Expr.Call (Expr.Name (Str.ofString "tuple") _) _ _ _) _ _); refine' Zan (v:=.type "tuple") (by assumption) (by kernel_rfl) (by kernel_rfl) (by kernel_rfl) (by kernel_rfl) (by kernel_rfl) Z4 ?_ ?_)
      | ((with_reducible show Ev _ _ _ _ (Expr.Call (Expr.Name (Str.ofString "str") _) _ _ _) _ _); refine' Zan (v:=.type "str") (by assumption) (by kernel_rfl) (by kernel_rfl) (by kernel_rfl) (by kernel_rfl) (by kernel_rfl) Z4 ?_ ?_)
      | ((with_reducible show Ev _ _ _ _ (Expr.Call (Expr.Name (Str.ofString "zip") _) _ _ _) _ _); refine' Zan (v:=.type "zip") (by assumption) (by kernel_rfl) (by kernel_rfl) (by kernel_rfl) (by kernel_rfl) (by kernel_rfl) Z4 ?_ ?_)
      | ((with_reducible show Ev _ _ _ _ (Expr.Call (Expr.Name (Str.ofString "sorted") _) _ _ _) _ _); refine' Zan (v:=.builtin "sorted") (by assumption) (by kernel_rfl) (by kernel_rfl) (by kernel_rfl) (by kernel_rfl) (by kernel_rfl) Zah ?_ ?_)
      | refine' ZU (by assumption) (by kernel_rfl) (by kernel_rfl) (by kernel_rfl) ?_ ?_
  k_with "ev" =>
    first
      | ((with_reducible show Ev _ _ _ _ (Expr.Constant _ _ _) _ _); first | exact ZfZ | exact ZkW | exact ZmJ | exact ZmE)
      | ((with_reducible show Ev _ _ _ _ (Expr.Name _ _) _ _); k_extra "name")
      | ((with_reducible show Ev _ _ _ _ (Expr.BinOp _ _ _ _) _ _); refine' ZbY ?_ ?_ ?_)
      | ((with_reducible show Ev _ _ _ _ (Expr.UnaryOp UnaryOp.USub _ _) _ _); refine' ZoX ?_ ZnT)
      | ((with_reducible show Ev _ _ _ _ (Expr.Compare _ [_] [_] _) _ _); refine' ZkY ?_ ?_ ?_)
      | ((with_reducible show Ev _ _ _ _ (Expr.BoolOp BoolOp.And [_] _) _ _); refine' ZjX ?_)
      | ((with_reducible show Ev _ _ _ _ (Expr.BoolOp BoolOp.And _ _) _ _); refine' Zoh ?_ (fun _=>?_))
      | ((with_reducible show Ev _ _ _ _ (Expr.Call (Expr.Name _ _) _ _ _) _ _); k_extra "callname")
      | ((with_reducible show Ev _ _ _ _ (Expr.Attribute (Expr.Name _ _) _ _) _ _); refine' ZjY ?_ ?_)
      | ((with_reducible show Ev _ _ _ _ (Expr.Call (Expr.Attribute (Expr.Name _ _) _ _) _ _ _) _ _); refine' Zae ?_ ?_ ?_ ?_ ?_)
      | ((with_reducible show Ev _ _ _ _ (Expr.Call (Expr.Attribute (Expr.Attribute _ _ _) _ _) _ _ _) _ _); refine' ZaN ?_ ?_ ?_ ?_ ?_)
      | ((with_reducible show Ev _ _ _ _ (Expr.Attribute (Expr.Attribute _ _ _) _ _) _ _); refine' ZjZ ?_ ?_)
      | ((with_reducible show Ev _ _ _ _ (Expr.Tuple _ _ _) _ _); refine' ZkV ?_ ?_)
      | ((with_reducible show Ev _ _ _ _ (Expr.Subscript _ (Expr.Name _ _) _) _ _); refine' Zaj ?_ ?_ ?_)
      | ((with_reducible show Ev _ _ _ _ (Expr.Subscript _ (Expr.BinOp _ _ _ _) _) _ _); refine' Zaj ?_ ?_ ?_)
      | ((with_reducible show Ev _ _ _ _ (Expr.Subscript _ (Expr.Attribute _ _ _) _) _ _); refine' Zaj ?_ ?_ ?_)
      | ((with_reducible show Ev _ _ _ _ (Expr.Subscript _ (Expr.Constant _ _ _) _) _ _); refine' Zaj ?_ ?_ ?_)
  k_with "lst" =>
    first
      | exact LstAt.fz _
      | exact LstAt.led (by k_extra "hget")
  k_with "sb" =>
    first
      | exact ZdF (by k_extra "lst") (by assumption) (by omega)
      | exact Zl9 (by k_extra "lst") (by assumption) (by omega)
  k_with "me" =>
    first
      | exact ZoR (by assumption) (by k_extra "hget") (by k_extra "hget") (by kernel_rfl) (by kernel_rfl) (by kernel_rfl)
      | exact ZkO (.inl (by k_extra "hget"))
      | exact ZjL
      | exact Zig
      | exact Zbv (by k_extra "hget")
  k_with "able" =>
    first
      | exact Zah
      | exact Z4
      | exact kp_m (by assumption) (by kernel_rfl)
      | exact kp_g (by assumption) (by kernel_rfl)
  k_with "si" =>
    first
      | exact ZjK (by k_extra "hget") (by omega)
      | exact Zgz (by k_extra "hget") (by omega) (by omega)
  k_with "brT" =>
    ((try k_extra "body"); refine' Zat (by repeat' k_extra "w") (by kernel_rfl) ?_ (by intro e; cases e))
  k_with "brTi" =>
    ((try k_extra "body"); refine' Zat (by repeat' k_extra "w") (by simp; omega) ?_ (by intro e; cases e))
  k_with "brFi" =>
    ((try k_extra "body"); refine' Zs (by repeat' k_extra "w") (by simp; omega) ?_)
  k_with "brF" =>
    ((try k_extra "body"); refine' Zs (by repeat' k_extra "w") (by kernel_rfl) ?_)
  k_with "app" =>
    first
      | with_reducible exact ZoJ
      | exact ZoK (by k_extra "app")
  k_with "len" =>
    first
      | with_reducible exact Zor
      | exact Zos (by k_extra "len")
  k_with "sa" =>
    first
      | exact ZkE (by assumption) (by rfl) (by rfl) (by kernel_rfl) (by kernel_rfl) (by k_extra "stl") (by simp) Znb
  k_with "w" =>
    with_reducible show (_:Prop)
    first
      | ((with_reducible show SaJ _ _ _ _ _ _ _ _); k_extra "sa")
      | ((with_reducible show Ex1 _ _ _ _ (Stmt.Assign [Expr.Attribute _ _ _] _ _) _ _); refine' Zc7 ?_ ?_ ?_)
      | ((with_reducible show MeJ _ _ _ _ _ _ _ _); k_extra "me")
      | ((with_reducible show callable _ _); k_extra "able")
      | ((with_reducible show SiJ _ _ _ _ _ _ _ _); k_extra "si")
      | ((with_reducible show Ex1 _ _ _ _ (Stmt.Assign [Expr.Subscript _ _ _] _ _) _ _); refine' Zc6 ?_ ?_ ?_ ?_)
      | ((with_reducible show Ex1 _ _ _ _ (Stmt.Expr _ _) _ _); refine' Zad ?_)
      | ((with_reducible show SbJ _ _ _ _ _ _ _ _ _ _); k_extra "sb")
      | ((with_reducible show Ev _ _ _ _ _ _ _); k_extra "ev")
      | ((with_reducible show Evs _ _ _ _ _ _ _ _); first | exact ZH | refine' Zu ?_ ?_)
      | ((with_reducible show BinJ _ _ _ _ _ _ _ _ _); k_extra "bin")
      | ((with_reducible show CmpJ _ _ _ _ _ _ _ _ _); k_extra "cmp")
      | ((with_reducible show GaJ _ _ _ _ _ _ _ _); k_extra "ga")
      | ((with_reducible show CallJ _ _ _ _ _ _ _); k_extra "call")
      | ((with_reducible show Ts _ _ _ _ (Expr.Compare _ [_] [_] _) _ _); refine' Zal ?_ ?_ ?_)
      | ((with_reducible show Ts _ _ _ _ (Expr.UnaryOp UnaryOp.Not _ _) _ _); refine' Zei ?_)
      | ((with_reducible show Ts _ _ _ _ (Expr.BoolOp _ _ _) _ _); refine' Zcx ?_)
      | ((with_reducible show TsB _ _ _ _ BoolOp.And [] _ _ _); exact ZjI)
      | ((with_reducible show TsB _ _ _ _ BoolOp.Or [] _ _ _); exact Zfb)
      | ((with_reducible show TsB _ _ _ _ BoolOp.And _ _ _ _); refine' Zl1 ?_ (fun _=>?_))
      | ((with_reducible show TsB _ _ _ _ BoolOp.Or _ _ _ _); refine' Zel ?_ (fun _=>?_))
      | ((with_reducible show Ex _ _ _ _ (FD.body _) _ _); show Ex _ _ _ _ (_ :: _) _ _)
      | ((with_reducible show Ex _ _ _ _ (Stmt.Return _ _ :: _) _ _); refine' Zy ?_ (by intro e; cases e))
      | ((with_reducible show Ex _ _ _ _ (Stmt.Assign _ _ _ :: _) _ _); refine' Za ?_ ?_)
      | ((with_reducible show Ex _ _ _ _ (Stmt.Expr _ _ :: _) _ _); refine' Za ?_ ?_)
      | ((with_reducible show Ts _ _ _ _ (Expr.Call _ _ _ _) _ _); refine' Zb8 ?_ ZbH)
      | ((with_reducible show Ex1 _ _ _ _ (Stmt.Return (some _) _) _ _); refine' Z1 ?_)
      | ((with_reducible show Ex _ _ _ _ [] _ _); exact Ze)
      | ((with_reducible show Ex1 _ _ _ _ (Stmt.Assign [Expr.Name _ _] _ _) _ _); refine' Zj ?_ ?_ (by rfl) (by kernel_rfl))
      | ((with_reducible show stl _ _ _ = _); k_extra "stl")
      | ((with_reducible show List.length _ <= 1000000); simp; done)
  k_with "if" =>
    ((try k_extra "body"); refine' ZkT (by repeat' k_extra "w") (fun _=>?_) (by intro e; cases e) (fun _=>?_))
  k_with "ifT" =>
    refine' Za (Zet (by repeat' k_extra "w") ?_) ?_
  k_with "let" =>
    ((try k_extra "body"); refine' Za (Zj (by repeat' k_extra "w") (by k_extra "stl") (by rfl) (by kernel_rfl)) ?_)
  k_with "body" =>
    ((with_reducible show Ex _ _ _ _ (FD.body _) _ _); show Ex _ _ _ _ (_ :: _) _ _)
  k_with "lsub" =>
    first
      | with_reducible exact LSub.nil
      | (refine' LSub.cons (by first | k_extra "lk" | k_extra "lkD") ?_; k_extra "lsub")
  k_with "lkD" =>
    first
      | exact ZeP
      | ((with_reducible apply Za5); kernel_rfl; k_extra "lkD")
  k_with "lim" =>
    first
      | with_reducible exact Zll | with_reducible exact Zlk | with_reducible exact Zok | with_reducible exact Zop | with_reducible exact Zol | with_reducible exact Zoq
      | with_reducible assumption
      | with_reducible exact Zz
      | with_reducible exact Zoj
  k_with "limL" =>
    first
      | with_reducible exact LimL.nil
      | (refine' LimL.cons (by k_extra "lim") ?_; k_extra "limL")
  trivial
section
section
variable {C:Cx} {k:Nat} (G:KF C.K) {H:List AObj}
include G
theorem ZkA {n:Int} (h0:0 ≤ n) (h1:n ≤ 1000):CallJ C (k + 1) (.ref (ga C.K "mask")) [.int n] H (.int (1 * 2 ^ n.toNat - 1)) H:=by
  refine CodeJ.call ?_
  exact fn1R G.f_mask (x0 := "size") (by kernel_rfl) (fun _ _ _ _ _ _ _=>by kernel_rfl) (fun lH lA=>by
    repeat' k_extra "w"
    . exact h0
    . have:Builtin.Int.intBits 1 = 1:=by decide
      rw [this]; lia) (fun _=>rfl)
end
theorem walk_C1_482:True:=by
  k_with "call" => (fail_if_success k_extra "d1"); refine' ZkA (by assumption) ?_ ?_
  trivial
section
variable {C:Cx} {k:Nat} (G:KF C.K) {H:List AObj}
include G
theorem Zbe {w n:Int} (h0:0 ≤ n) (h1:n ≤ 1000):CallJ C (k + 2) (.ref (ga C.K "wrap")) [.int w,.int n] H (.int (w % 2 ^ n.toNat)) H:=by
  rw [<- Ze8]
  refine CodeJ.call ?_
  exact fn2R G.f_wrap (x0 := "worth") (x1 := "size") (by kernel_rfl) (fun _ _ _ _ _ _ _ _=>by kernel_rfl) (fun lH lA=>by
    repeat' k_extra "w"
    . exact h0
    . exact h1) (fun _=>rfl)
end
theorem walk_C1_1046:True:=by
  k_with "call" => (fail_if_success k_extra "d1"); refine' Zbe (by assumption) ?_ ?_
  trivial
noncomputable def Zaf (name:Str):Int:=if (name == "movss" || (name == "movd" || false)) = true then 32 else if (name == "movsd" || (name == "movq" || false)) = true then 64 else 0
noncomputable def regO (K:Frag) (name kind:Str) (num size:Int):PV:=.obj (ga K "Register") [("name", .str name),("kind", .str kind),("number", .int num),("size", .int size)]
noncomputable def opR (K:Frag) (r:PV):PV:=.obj (ga K "Reg") [("kind", .str "reg"),("register", r)]
noncomputable def opM (K:Frag) (base:PV) (more bits:Int):PV:=.obj (ga K "Mem") [("kind", .str "mem"),("base", base),("index", .none),("scale", .int 1),("worth", .int more),("size", .int bits),("segment", .str ""),("name", .str "")]
section
variable {C:Cx} {k:Nat} (G:KF C.K) {H:List AObj}
include G
theorem Zcs {name:Str}:CallJ C (k + 1) (.ref (ga C.K "part_size")) [.str name] H (.int (Zaf name)) H:=by
  refine CodeJ.call ?_
  exact fn1R G.f_part_size (x0 := "name") (by kernel_rfl) (fun _ _ _ _ _ _ _=>by kernel_rfl) (fun lH lA=>by
    unfold Zaf
    k_extra "if"
    . rename_i h; rw [if_pos h]; repeat' k_extra "w"
    . rename_i h; rw [if_neg (by rw [h]; decide)]
      k_extra "if"
      . rename_i h; rw [if_pos h]; repeat' k_extra "w"
      . rename_i h; rw [if_neg (by rw [h]; decide)]; repeat' k_extra "w") (fun _=>rfl)
end
theorem walk_C1_z:True:=by
  k_with "d1" => skip
  trivial
end
section
theorem walk_C2_0:True:=by
  k_with "call" => (fail_if_success k_extra "d2"); first | refine' ZkA (by assumption) ?_ ?_ | refine' Zbe (by assumption) ?_ ?_
  trivial
theorem Zbm {C:Cx} {k:Nat} {fi:Fi} {σ:St} {e:Expr} {i:Int} (h:Ev C k fi σ e (.int i) σ):EvP C k fi σ (some e) (some i):=.some h
section
variable {C:Cx} {k:Nat} (G:KF C.K) {H:List AObj}
include G
theorem ZfQ {name kind:Str} {num size:Int}:CallJ C (k + 1) (.ref (ga C.K "is_xmm")) [opR C.K (regO C.K name kind num size)] H (.bool (kind == "xmm")) H:=by
  refine CallJ.cast (r:=.bool ((("reg" : Str) == "reg") && (kind == "xmm"))) (CodeJ.call ?_) (by rw [show (("reg" : Str) == "reg") = true from by kernel_rfl]; rfl)
  exact fn1R G.f_is_xmm (x0 := "operand") (by kernel_rfl) (fun _ _ _ _ _ _ _=>by kernel_rfl) (fun lH lA=>by
    repeat' k_extra "w") (fun _=>rfl)
theorem ZhZ {base:PV} {more bits:Int}:CallJ C (k + 1) (.ref (ga C.K "is_xmm")) [opM C.K base more bits] H (.bool false) H:=by
  refine CodeJ.call ?_
  exact fn1R G.f_is_xmm (x0 := "operand") (by kernel_rfl) (fun _ _ _ _ _ _ _=>by kernel_rfl) (fun lH lA=>by
    k_extra "w"
    k_extra "w"
    all_goals try k_extra "w"
    all_goals try (refine ZiA ?_)
    all_goals try (refine Ev.cast (v:=.bool (("mem" : Str) == "reg")) ?_ (by kernel_rfl))
    repeat' k_extra "w") (fun _=>rfl)
noncomputable def Zaq (stem:Str):Str:=if (stem == "padd" || (stem == "psub" || false)) = true then "bwdq" else if (stem == "pcmpeq") = true then "bwd" else ""
noncomputable def ZD (name:Str):Str:=Txt.slice name none (some (-1))
noncomputable def ZfD (name:Str):Str:=Txt.item name (-1)
noncomputable def Zag (name:Str):Int:=Txt.find (Zaq (ZD name)) (ZfD name)
noncomputable def Z2 (name:Str):Int:=if decide (Zag name < 0) = true then 0 else 8 * 2 ^ (Zag name).toNat
theorem Zcu {name:Str} (h1:1 ≤ name.length) (h2:name.length ≤ 1000) (h3:Zag name ≤ 1000):CallJ C (k + 1) (.ref (ga C.K "lane_size")) [.str name] H (.int (Z2 name)) H:=by
  refine CodeJ.call ?_
  exact fn1R G.f_lane_size (x0 := "name") (by kernel_rfl) (fun _ _ _ _ _ _ _=>by kernel_rfl) (fun lH lA=>by
    k_extra "body"
    refine' Za (Zj (v:=.str (ZD name)) (Zau (by k_extra "w") .none (Zbm (by repeat' k_extra "w")) (by lia)) (by k_extra "stl") (by rfl) (by kernel_rfl)) ?_
    refine' Za (Zj (v:=.str (Zaq (ZD name))) (Zfg (by repeat' k_extra "w") (fun h=>Ev.cast (by k_extra "w") (by unfold Zaq; rw [if_pos h]; kernel_rfl)) (fun h=>Zfg (by repeat' k_extra "w") (fun h'=>Ev.cast (by k_extra "w") (by unfold Zaq; rw [if_neg (by rw [h]; decide),if_pos h'])) (fun h'=>Ev.cast (by k_extra "w") (by unfold Zaq; rw [if_neg (by rw [h]; decide),if_neg (by rw [h']; decide)])))) (by k_extra "stl") (by rfl) (by kernel_rfl)) ?_
    refine' Za (Zj (v:=.int (Zag name)) (Zae (by k_extra "w") Zig Zah (Zu (Zaj (by k_extra "w") (by repeat' k_extra "w") (ZfV (by kernel_rfl) (by lia) (by lia))) ZH) (ZiH rfl)) (by k_extra "stl") (by rfl) (by kernel_rfl)) ?_
    refine' Zy (Z1 (Zfg (by repeat' k_extra "w") (fun h=>Ev.cast ZfZ (by unfold Z2; rw [if_pos h])) (fun h=>Ev.cast (by
      repeat' k_extra "w"
      . simp at h; exact h
      . have:Builtin.Int.intBits 8 = 4:=by decide
        rw [this]; lia) (by unfold Z2; rw [if_neg (by rw [h]; decide)])))) (by intro e; cases e)) (fun _=>rfl)
noncomputable def ZX (stem:Str) (one other size:Int):Int:=if (stem == "padd") = true then (one + other) % 2 ^ size.toNat else if (stem == "psub") = true then (one - other) % 2 ^ size.toNat else if (one == other) = true then 1 * 2 ^ size.toNat - 1 else 0
theorem Zef {stem:Str} {one other size:Int} (h0:0 ≤ size) (h1:size ≤ 1000):CallJ C (k + 3) (.ref (ga C.K "lane_worth")) [.str stem,.int one,.int other,.int size] H (.int (ZX stem one other size)) H:=by
  refine CodeJ.call ?_
  exact fn4R G.f_lane_worth (x0 := "stem") (x1 := "one") (x2 := "other") (x3 := "size") (by kernel_rfl) (fun _ _ _ _ _ _ _ _ _ _=>by kernel_rfl) (fun lH lA=>by
    unfold ZX
    k_extra "if"
    . rename_i h; rw [if_pos h]; repeat' k_extra "w"
      . exact h0
      . exact h1
    . rename_i h; rw [if_neg (by rw [h]; decide)]
      k_extra "if"
      . rename_i h; rw [if_pos h]; repeat' k_extra "w"
        . exact h0
        . exact h1
      . rename_i h; rw [if_neg (by rw [h]; decide)]
        refine' Zy (Z1 (Zfg (by repeat' k_extra "w") (fun h=>Ev.cast (by
          repeat' k_extra "w"
          . exact h0
          . have:Builtin.Int.intBits 1 = 1:=by decide
            rw [this]; lia) (by rw [if_pos h])) (fun h=>Ev.cast ZfZ (by rw [if_neg (by rw [h]; decide)])))) (by intro e; cases e)) (fun _=>rfl)
noncomputable def Zas (name:Str) (one other:Int):Int:=if (name == "pxor" || (name == "xorps" || false)) = true then Builtin.bitXor one other else if (name == "por" || (name == "orps" || false)) = true then Builtin.bitOr one other
  else if (name == "pandn") = true then Builtin.bitAnd (Builtin.bitXor 340282366920938463463374607431768211455 one) other else Builtin.bitAnd one other
theorem Zeg {name:Str} {one other:Int}:CallJ C (k + 1) (.ref (ga C.K "bit_result")) [.str name,.int one,.int other] H (.int (Zas name one other)) H:=by
  refine CodeJ.call ?_
  exact fn3R G.f_bit_result (x0 := "name") (x1 := "one") (x2 := "other") (by kernel_rfl) (fun _ _ _ _ _ _ _ _ _=>by kernel_rfl) (fun lH lA=>by
    unfold Zas
    k_extra "if"
    . rename_i h; rw [if_pos h]; repeat' k_extra "w"
    . rename_i h; rw [if_neg (by rw [h]; decide)]
      k_extra "if"
      . rename_i h; rw [if_pos h]; repeat' k_extra "w"
      . rename_i h; rw [if_neg (by rw [h]; decide)]
        k_extra "if"
        . rename_i h; rw [if_pos h]; repeat' k_extra "w"
        . rename_i h; rw [if_neg (by rw [h]; decide)]; repeat' k_extra "w") (fun _=>rfl)
end
theorem walk_C2_z:True:=by
  k_with "d2" => skip
  trivial
end
section
noncomputable def Zd3 (worth size:Int) (i:Nat):Int:=worth.fdiv (2 ^ (0 + (i:Int) * size).toNat) % 2 ^ size.toNat
noncomputable def ZW (worth size:Int) (n:Nat):List Int:=(List.range n).map (Zd3 worth size)
theorem walk_C3_0:True:=by
  k_with "call" => (fail_if_success k_extra "d3"); first | refine' Zbe (by assumption) ?_ ?_ | refine' ZaP ?_ ?_ | refine' ZA
  trivial
section
variable {C:Cx} {k:Nat} (G:KF C.K) {H:List AObj}
include G
theorem ZlT {worth size:Int} {n:Nat} (h0:0 < size) (h1:size ≤ 1000) (hr:Builtin.Range.rangeSize 0 128 size = ((n:Nat):Int)) (hsm:Builtin.Range.small 0 128 size = true) (hn:n ≤ 128):CallJ C (k + 4) (.ref (ga C.K "lanes")) [.int worth,.int size] H (.lst ((ZW worth size n).map .int)) H:=by
  refine CodeJ.call ?_
  exact Zb4 G.f_lanes (names:=["worth", "size"]) (offs:=[("size", 1),("worth", 0)]) (cm:=[("size", H.length),("worth", H.length + 1)]) (cobs:=[.cell (some (.int size)),.cell (some (.int worth))]) (loc:=[])
    (by kernel_rfl) (fun s vs _ h=>by refine e2a0 (len2 h) fun v0 v1 hqa=>?_; subst hqa; rw [List.append_nil]; exact BindsTo.of_eq (Zcv G.f_lanes (by kernel_rfl) (fun _ _ _ _ _ _=>by kernel_rfl))) (fun n=>by kernel_rfl) (by decide +kernel) (by decide +kernel) (by kernel_rfl) (by kernel_rfl) (by kernel_rfl)
    (fun lH lA=>by
      refine ⟨?_,lH,Zbp _ _⟩
      k_extra "body"
      refine' Zy (Z1 (Zew (cc:=[("size", H.length),("worth", H.length + 1)]) (Zd3 worth size) rfl (by
        repeat' k_extra "w"
        . k_extra "om"
        . lia) hsm hr (by lia) (Zjt (by kernel_rfl) (by kernel_rfl) (by k_extra "lkN") (by k_extra "lkN")) (by kernel_rfl) (by kernel_rfl) (fun i hi os ho=>by
        repeat' k_extra "w"
        . have:=Int.mul_nonneg (Int.natCast_nonneg i) (Int.le_of_lt h0); lia
        . k_extra "om"
        . exact h1))) (by intro e; cases e)) (.ret _) (by simp) (by simp)
end
theorem walk_C3_z:True:=by
  k_with "d3" => skip
  trivial
end
section
noncomputable def ZaK (size:Int) (xs:List Int):Nat -> Int
  | 0=>0
  | i + 1=>ZaK size xs i + xs.getD i 0 * 2 ^ ((i:Int) * size).toNat
theorem Zhy {size:Int} {xs:List Int} {i:Nat}:ZaK size xs (i + 1) = ZaK size xs i + xs.getD i 0 * 2 ^ ((i:Int) * size).toNat:=rfl
theorem walk_C4_0:True:=by
  k_with "call" => (fail_if_success k_extra "d4"); first | refine' Zbe (by assumption) ?_ ?_ | refine' ZaP ?_ ?_ | refine' ZA
  trivial
section
variable {C:Cx} {k:Nat} (G:KF C.K) {H:List AObj}
include G
theorem ZfP {size:Int} {xs:List Int} (h0:0 ≤ size) (h1:size ≤ 1000) (hl:xs.length ≤ 1000) (hx:∀ x ∈ xs,x.natAbs < 2 ^ 1000):CallJ C (k + 2) (.ref (ga C.K "joined_transfers")) [.lst (xs.map .int),.int size] H (.int (ZaK size xs xs.length)) H:=by
  refine CodeJ.call ?_
  exact fn2R G.f_joined (x0 := "parts") (x1 := "size") (by kernel_rfl) (fun _ _ _ _ _ _ _ _=>by kernel_rfl) (fun lH lA=>by
    k_extra "let"
    refine' Za (Za9 (n:=xs.length) (fun i=>[("size", .int size),("parts", .lst (xs.map .int)),("worth", .int (ZaK size xs i))]) (fun _=>H) rfl (by kernel_rfl) (by
      repeat' k_extra "w"
      exact (ZdL (fun _ _ _ _=>.fz _) (by simp; lia)).cast (by simp)) hl (by k_extra "lsub") rfl (fun _=>rfl) (fun i hi os ho=>?_) lH (by k_extra "limL")) ?_
    . have hb:xs.getD i 0 ∈ xs:=by simp [List.getElem?_eq_getElem hi]
      have hb2:=intBits_le_iff.mpr (hx _ hb)
      have hi2:(i:Int) * size <= 1000 * 1000:=Int.mul_le_mul (by lia) h1 h0 (by decide)
      have hi3:=Int.mul_nonneg (Int.natCast_nonneg i) h0
      refine' ⟨_,_,.inl rfl,ZaA (by k_extra "stl") <| Za (Zj (v:=.int (ZaK size xs (i + 1))) (Ev.cast (v:=.int (ZaK size xs i + xs.getD i 0 * 2 ^ ((i:Int) * size).toNat)) (by
        repeat' k_extra "w"
        . exact IntMulOk.of_le (m:=64) (n:=64) (intBits_le_iff.mpr (by lia)) (intBits_le_iff.mpr (by lia)) (by decide)
        . exact hi3
        . lia) rfl) (by k_extra "stl") (by rfl) (by kernel_rfl)) Ze,?_⟩
      k_extra "lsub"
    . repeat' k_extra "w") (fun _=>rfl)
end
noncomputable def ZaD (name:Str) (one other size:Int) (n:Nat):Int:=ZaK size (List.zipWith (fun a b=>ZX (ZD name) a b size) (ZW one size n) (ZW other size n)) n
theorem Zcm {stem:Str} {a b size:Int} (h0:0 <= size) (h1:size <= 1000):0 <= ZX stem a b size /\ ZX stem a b size < 2 ^ 1000:=by
  have h2:(2:Int) ^ size.toNat <= 2 ^ (1000:Nat):=by
    have:(2:Nat) ^ size.toNat <= 2 ^ 1000:=Nat.pow_le_pow_right (by decide) (by lia)
    exact_mod_cast this
  have hp:(0:Int) < 2 ^ size.toNat:=Int.pow_pos (by decide)
  unfold ZX
  split
  . exact ⟨Int.emod_nonneg _ (Int.ne_of_gt hp),Int.lt_of_lt_of_le (Int.emod_lt_of_pos _ hp) h2⟩
  . split
    . exact ⟨Int.emod_nonneg _ (Int.ne_of_gt hp),Int.lt_of_lt_of_le (Int.emod_lt_of_pos _ hp) h2⟩
    . split
      . k_extra "om"
      . exact ⟨by decide,Int.lt_of_lt_of_le hp h2⟩
theorem walk_C4_1:True:=by
  k_with "call" => (fail_if_success k_extra "d4"); first | refine' ZfP (by assumption) ?_ ?_ ?_ ?_ | refine' ZlT (by assumption) (by assumption) (by assumption) (by assumption) (by assumption) (by assumption) | refine' Zef (by assumption) ?_ ?_ | refine' Zf4
  trivial
section
variable {C:Cx} {k:Nat} (G:KF C.K) {H:List AObj}
include G
theorem ZdB {name:Str} {one other size:Int} {n:Nat} (hs1:1 ≤ name.length) (hs2:name.length ≤ 1000) (h0:0 < size) (h1:size ≤ 1000) (hr:Builtin.Range.rangeSize 0 128 size = ((n:Nat):Int)) (hsm:Builtin.Range.small 0 128 size = true) (hn:n ≤ 128):CallJ C (k + 5) (.ref (ga C.K "lane_result")) [.str name,.int one,.int other,.int size] H (.int (ZaD name one other size n)) H:=by
  refine CodeJ.call ?_
  exact Zb4 G.f_lane_result (names:=["name", "one", "other", "size"]) (offs:=[("stem", 1),("size", 0)]) (cm:=[("stem", H.length),("size", H.length + 1)]) (cobs:=[.cell none,.cell (some (.int size))]) (loc:=[("other", .int other),("one", .int one),("name", .str name)]) (σ':=⟨[("other", .int other),("one", .int one),("name", .str name)],[("stem", H.length),("size", H.length + 1)],H ++ [.cell (some (.str (ZD name))),.cell (some (.int size))],none,[]⟩)
    (by kernel_rfl) (fun s vs _ h=>by refine e4a0 (len4 h) fun v0 v1 v2 v3 hqa=>?_; subst hqa; rw [List.append_nil]; exact BindsTo.of_eq (Zcv G.f_lane_result (by kernel_rfl) (fun _ _ _ _ _ _=>by kernel_rfl))) (fun n=>by kernel_rfl) (by decide +kernel) (by decide +kernel) (by kernel_rfl) (by kernel_rfl) (by kernel_rfl)
    (fun lH lA=>by
      refine ⟨?_,lH,rfl⟩
      have lH2:LimH (H ++ [AObj.cell (some (.str (ZD name))),.cell (some (.int size))]).length (H ++ [AObj.cell (some (.str (ZD name))),.cell (some (.int size))]):=LimH.append (lH.le (by simp)) (LimH.cons rfl (LimH.cons rfl LimH.nil))
      k_extra "body"
      refine' Za (ZcC (v:=.str (ZD name)) (Zau (by k_extra "w") .none (Zbm (by repeat' k_extra "w")) (by lia)) (by k_extra "lkN") (by k_extra "hget") (by rfl) (by kernel_rfl)) ?_
      have e:(H ++ [AObj.cell none,.cell (some (.int size))]).set H.length (.cell (some (.str (ZD name)))) = H ++ [AObj.cell (some (.str (ZD name))),.cell (some (.int size))]:=by simp
      rw [e]
      have hlen:(H ++ [AObj.cell (some (.str (ZD name))),.cell (some (.int size))]).length = H.length + 2:=by simp
      refine' ZjP (σ₁:=⟨[("other", .int other),("one", .int one),("name", .str name),("pairs", .ref (H ++ [AObj.cell (some (.str (ZD name))),.cell (some (.int size))]).length)],[("stem", H.length),("size", H.length + 1)],H ++ [.cell (some (.str (ZD name))),.cell (some (.int size))] ++ [.zO ((H ++ [AObj.cell (some (.str (ZD name))),.cell (some (.int size))]).length + 1),.zT,.zi ((ZW one size n).map .int),.zi ((ZW other size n).map .int)],none,[]⟩) (σ₂:=⟨[("other", .int other),("one", .int one),("name", .str name)],[("stem", H.length),("size", H.length + 1)],H ++ [.cell (some (.str (ZD name))),.cell (some (.int size))],none,[]⟩) (xs:=(List.zipWith (fun a b=>ZX (ZD name) a b size) (ZW one size n) (ZW other size n)).map .int) (n:=(H ++ [AObj.cell (some (.str (ZD name))),.cell (some (.int size))]).length) G (Zj (by repeat' k_extra "w") (by k_extra "stl") (by rfl) (by kernel_rfl)) (Nat.le_refl _) (by kernel_rfl) (by kernel_rfl) (by kernel_rfl)
        (ZcD (cc:=[("size", H.length + 1),("stem", H.length)]) (n:=n) (fun a b=>ZX (ZD name) a b size) rfl rfl (Nat.le_refl _) (by repeat' k_extra "w") (by simp [ZW]) (by simp [ZW]) (by lia) lH2 (by k_extra "limL") (by k_extra "lsub") (fun x i e=>by
            rw [ZeQ,ZeQ,Znj] at e
            split at e
            . obtain rfl:=Option.some.inj e; simp
            . split at e
              . obtain rfl:=Option.some.inj e; simp
              . exact nse e) (Zjt (by kernel_rfl) (by kernel_rfl) (by k_extra "lkN") (by k_extra "lkN")) (by kernel_rfl) (by kernel_rfl) (by kernel_rfl) (by kernel_rfl) (fun i a b ha hb os zs ho=>by
            repeat' k_extra "w"
            . k_extra "om"
            . exact h1)) (by repeat' k_extra "w") ?_
      refine (ZfP (k:=k + 2) G (by lia) h1 (by simp [ZW]; lia) (fun x hx=>?_)).cast ?_
      . obtain ⟨i,hi,rfl⟩:=List.mem_iff_getElem.mp hx
        simp only [List.getElem_zipWith]
        have:=Zcm (stem:=ZD name) (a:=(ZW one size n)[i]'(by simp at hi; lia)) (b:=(ZW other size n)[i]'(by simp at hi; lia)) (size:=size) (by lia) h1
        lia
      . unfold ZaD; simp [ZW]) (.ret _) (by simp) (by simp)
end
theorem walk_C4_z:True:=by
  k_with "d4" => skip
  trivial
end
section
theorem walk_C5_0:True:=by
  k_with "call" => (fail_if_success k_extra "d5"); first | refine' Zbe (by assumption) ?_ ?_ | refine' ZeD (by k_extra "hget") | refine' ZA
  trivial
noncomputable def ZbZ (mem:List (Int × Int)) (place:Int):Nat -> Int
  | 0=>0
  | i + 1=>ZbZ mem place i + mget ((place + (i:Int)) % 2 ^ 64) mem * 2 ^ (8 * (i:Int)).toNat
theorem Zlc {mem:List (Int × Int)} {place:Int} {i:Nat}:ZbZ mem place (i + 1) = ZbZ mem place i + mget ((place + (i:Int)) % 2 ^ 64) mem * 2 ^ (8 * (i:Int)).toNat:=rfl
noncomputable def Zaw (place worth:Int) (mem:List (Int × Int)):Nat -> List (Int × Int)
  | 0=>mem
  | i + 1=>mput ((place + (i:Int)) % 2 ^ 64) (worth.fdiv (2 ^ (8 * (i:Int)).toNat) % 256) (Zaw place worth mem i)
theorem ZeF {mem:List (Int × Int)} {place worth:Int} {i:Nat}:Zaw place worth mem (i + 1) = mput ((place + (i:Int)) % 2 ^ 64) (worth.fdiv (2 ^ (8 * (i:Int)).toNat) % 256) (Zaw place worth mem i):=rfl
section
variable {C:Cx} {k:Nat} (G:KF C.K) {H:List AObj} {m md d:Nat} {mem:List (Int × Int)}
include G
theorem ZlR {p:Int} (M:MemAt C.K H m md d mem):CallJ C (k + 3) (.ref (ma C.K "Memory" "octet")) [.ref m,.int p] H (.int (mget (p % 2 ^ 64) mem)) H:=by
  obtain ⟨g1,g2,g3⟩:=M
  refine CodeJ.call ?_
  exact fn2R G.m_octet (x0 := "self") (x1 := "place") (by kernel_rfl) (fun _ _ _ _ _ _ _ _=>by kernel_rfl) (fun lH lA=>by
    repeat' k_extra "w"
    all_goals decide) (fun _=>rfl)
theorem Ze4 {p v:Int} (M:MemAt C.K H m md d mem) (hz:mem.length ≤ 1000):CallJ C (k + 3) (.ref (ma C.K "Memory" "set_octet")) [.ref m,.int p,.int v] H .none (H.set d (.dict (dI (mput (p % 2 ^ 64) v mem)))):=by
  obtain ⟨g1,g2,g3⟩:=M
  refine CodeJ.call ?_
  exact fn3N G.m_set_octet (x0 := "self") (x1 := "place") (x2 := "octet") (by kernel_rfl) (fun _ _ _ _ _ _ _ _ _=>by kernel_rfl) (fun lH lA=>by
    repeat' k_extra "w"
    all_goals decide) (fun lH lA=>by simpa using lH.set (ZbO _)) (by simp)
end
theorem walk_C5_1:True:=by
  k_with "call" => (fail_if_success k_extra "d5"); first | refine' ZlR (by assumption) (by first | assumption | exact MemAt.app (by assumption)) | refine' Ze4 (by assumption) (by first | assumption | exact MemAt.app (by assumption)) ?_
  k_with "bin" => (fail_if_success k_extra "d5"); first | exact ZgN
  trivial
theorem Zca (place worth:Int) (mem:List (Int × Int)):∀ i,(Zaw place worth mem i).length <= mem.length + i
  | 0=>Nat.le_refl _
  | i + 1=>by
    have:=Zca place worth mem i
    have h2:=Zbh ((place + (i:Int)) % 2 ^ 64) (worth.fdiv (2 ^ (8 * (i:Int)).toNat) % 256) (Zaw place worth mem i)
    rw [ZeF]; exact Nat.le_trans h2 (Nat.succ_le_succ this)
section
variable {C:Cx} {k:Nat} (G:KF C.K) {H:List AObj} {m md d:Nat} {mem:List (Int × Int)}
include G
theorem ZlS {p:Int} {n:Nat} (M:MemAt C.K H m md d mem) (hO:Oct mem) (hn:n ≤ 100):CallJ C (k + 5) (.ref (ma C.K "Memory" "read")) [.ref m,.int p,.int (n:Int)] H (.int (ZbZ mem p n)) H:=by
  refine CodeJ.call ?_
  exact fn3R G.m_mread (x0 := "self") (x1 := "place") (x2 := "width") (by kernel_rfl) (fun _ _ _ _ _ _ _ _ _=>by kernel_rfl) (fun lH lA=>by
    have g1:=M.hm; have g2:=M.hmd
    have hm:PV.lim H.length (.ref m) = true:=by
      exact (an lA).1
    k_extra "let"
    refine' Za (Za9 (n:=n) (fun i=>[("self", .ref m),("place", .int p),("worth", .int (ZbZ mem p i))]) (fun _=>H) rfl (by kernel_rfl) (by
      repeat' k_extra "w") (by lia) (by k_extra "lsub") rfl (fun _=>rfl) (fun i hi os ho=>?_) lH (by k_extra "limL")) ?_
    . have M':=M.app (X:=os.map AObj.raw)
      have hv:=hO.get (k:=(p + (i:Int)) % 2 ^ 64)
      have hb:Builtin.Int.intBits (mget ((p + (i:Int)) % 2 ^ 64) mem) <= 8:=intBits_le_iff.mpr (by lia)
      refine' ⟨_,_,.inl rfl,ZaA (by k_extra "stl") <| Za (Zj (v:=.int (ZbZ mem p (i + 1))) (Ev.cast (v:=.int (ZbZ mem p i + mget ((p + (i:Int)) % 2 ^ 64) mem * 2 ^ (8 * (i:Int)).toNat)) (by
        repeat' k_extra "w"
        . exact IntMulOk.of_le (m:=64) (n:=64) (intBits_le_iff.mpr (by lia)) (intBits_le_iff.mpr (by lia)) (by decide)
        . k_extra "om"
        . lia) rfl) (by k_extra "stl") (by rfl) (by kernel_rfl)) Ze,?_⟩
      k_extra "lsub"
    . repeat' k_extra "w") (fun _=>rfl)
theorem ZfO {p w:Int} {n:Nat} (M:MemAt C.K H m md d mem) (hn:n ≤ 100) (hz:mem.length ≤ 900):CallJ C (k + 5) (.ref (ma C.K "Memory" "write")) [.ref m,.int p,.int (n:Int),.int w] H .none (H.set d (.dict (dI (Zaw p w mem n)))):=by
  refine CodeJ.call ?_
  exact fn4N G.m_mwrite (x0 := "self") (x1 := "place") (x2 := "width") (x3 := "worth") (by kernel_rfl) (fun _ _ _ _ _ _ _ _ _ _=>by kernel_rfl) (fun lH lA=>by
    have hm:PV.lim H.length (.ref m) = true:=by
      exact (an lA).1
    k_extra "body"
    refine' Za (Za9 (n:=n) (fun i=>[("self", .ref m),("place", .int p),("worth", .int w)]) (fun i=>H.set d (.dict (dI (Zaw p w mem i)))) rfl (by kernel_rfl) (by
      repeat' k_extra "w") (by lia) (by k_extra "lsub") M.same (fun _=>by simp) (fun i hi os ho=>?_) (lH.set (ZbO _)) (by k_extra "limL")) Ze
    have M':=(M.put (mem':=Zaw p w mem i)).app (X:=os.map AObj.raw)
    have g1:=M'.hm; have g2:=M'.hmd
    have hl:=Zca p w mem i
    have hset:(H.set d (AObj.dict (dI (Zaw p w mem (i + 1)))) ++ os.map AObj.raw) = (H.set d (.dict (dI (Zaw p w mem i))) ++ os.map AObj.raw).set d (.dict (dI (Zaw p w mem (i + 1)))):=by
      have:d < H.length:=(List.getElem?_eq_some_iff.mp M.hd).1
      rw [List.set_append_left _ _ (by simpa using this)]; simp
    rw [hset]
    refine' ⟨_,_,.inl rfl,ZaA (by k_extra "stl") <| Za (by
        repeat' k_extra "w"
        . exact IntMulOk.of_le (m:=64) (n:=64) (intBits_le_iff.mpr (by lia)) (intBits_le_iff.mpr (by lia)) (by decide)
        . k_extra "om"
        . lia) Ze,?_⟩
    k_extra "lsub") (fun lH lA=>by simpa using lH.set (ZbO _)) (by simp)
end
theorem walk_C5_z:True:=by
  k_with "d5" => skip
  trivial
end
section
section
variable {C:Cx} {k:Nat} (G:KF C.K) {H:List AObj}
include G
theorem ZhY {old w size:Int} (h:32 ≤ size):CallJ C (k + 1) (.ref (ga C.K "joined_machine")) [.int old,.int w,.int size] H (.int w) H:=by
  refine CodeJ.call ?_
  exact fn3R G.f_joinedM (x0 := "old") (x1 := "worth") (x2 := "size") (by kernel_rfl) (fun _ _ _ _ _ _ _ _ _=>by kernel_rfl) (fun lH lA=>by
    k_extra "brTi"
    repeat' k_extra "w") (fun _=>rfl)
end
theorem walk_C6_0:True:=by
  k_with "call" => (fail_if_success k_extra "d6"); first | refine' Zbe (by assumption) ?_ ?_ | refine' ZhY (by assumption) ?_
  trivial
section
variable {C:Cx} {k:Nat} (G:KF C.K) {H:List AObj} {b:SId} {S:MS}
include G
theorem ZfS {name:Str} {n:Nat} {size:Int} (A:StA C.K H b S) (O:Good S) (hn:n < 16) (h0:0 ≤ size) (h1:size ≤ 1000):CallJ C (k + 3) (.ref (ma C.K "State" "get")) [.ref b.s,regO C.K name "gpr" (n:Int) size] H (.int (S.regs.getD n 0 % 2 ^ size.toNat)) H:=by
  have g1:=A.hs; have g2:=A.hsd; have g3:=A.hr; have lr:=O.lr
  have hn2:n < S.regs.length:=by lia
  refine CodeJ.call ?_
  exact fn2R G.m_get (x0 := "self") (x1 := "register") (by kernel_rfl) (fun _ _ _ _ _ _ _ _=>by kernel_rfl) (fun lH lA=>by
    k_extra "brT"
    repeat' k_extra "w"
    . exact h0
    . exact h1) (fun _=>rfl)
theorem ZfR {name:Str} {n:Nat} {size:Int} (A:StA C.K H b S) (O:Good S) (hn:n < 16):CallJ C (k + 3) (.ref (ma C.K "State" "get")) [.ref b.s,regO C.K name "xmm" (n:Int) size] H (.int (S.xmm.getD n 0)) H:=by
  have g1:=A.hs; have g2:=A.hsd; have g3:=A.hx; have lr:=O.lx
  have hn2:n < S.xmm.length:=by lia
  refine CodeJ.call ?_
  exact fn2R G.m_get (x0 := "self") (x1 := "register") (by kernel_rfl) (fun _ _ _ _ _ _ _ _=>by kernel_rfl) (fun lH lA=>by
    k_extra "brF"
    k_extra "brF"
    k_extra "brT"
    repeat' k_extra "w") (fun _=>rfl)
theorem Zky {name:Str} {n:Nat} {size w:Int} (A:StA C.K H b S) (O:Good S) (hn:n < 16) (h0:32 ≤ size) (h1:size ≤ 1000):CallJ C (k + 3) (.ref (ma C.K "State" "put")) [.ref b.s,regO C.K name "gpr" (n:Int) size,.int w] H .none (SH b H { S with regs:=S.regs.set n (w % 2 ^ size.toNat) }):=by
  rw [<- A.setR]
  have g1:=A.hs; have g2:=A.hsd; have g3:=A.hr; have lr:=O.lr
  have hn2:n < S.regs.length:=by lia
  refine CodeJ.call ?_
  exact fn3N G.m_put (x0 := "self") (x1 := "register") (x2 := "worth") (by kernel_rfl) (fun _ _ _ _ _ _ _ _ _=>by kernel_rfl) (fun lH lA=>by
    k_extra "body"
    refine' Za (Zj (by
      repeat' k_extra "w"
      . lia
      . exact h1) (by k_extra "stl") (by rfl) (by kernel_rfl)) ?_
    refine' ZbX (by repeat' k_extra "w") (by kernel_rfl) ?_ Ze
    repeat' k_extra "w"
    exact h0) (fun lH lA=>by rw [List.length_set]; exact lH.set Zaa) (by simp)
theorem ZhT {name:Str} {n:Nat} {size w:Int} (A:StA C.K H b S) (O:Good S) (hn:n < 16) (h0:0 ≤ size) (h1:size ≤ 1000):CallJ C (k + 3) (.ref (ma C.K "State" "put")) [.ref b.s,regO C.K name "xmm" (n:Int) size,.int w] H .none (SH b H { S with xmm:=S.xmm.set n (w % 2 ^ size.toNat) }):=by
  rw [<- A.setX]
  have g1:=A.hs; have g2:=A.hsd; have g3:=A.hx; have lr:=O.lx
  have hn2:n < S.xmm.length:=by lia
  refine CodeJ.call ?_
  exact fn3N G.m_put (x0 := "self") (x1 := "register") (x2 := "worth") (by kernel_rfl) (fun _ _ _ _ _ _ _ _ _=>by kernel_rfl) (fun lH lA=>by
    k_extra "body"
    refine' Za (Zj (by
      repeat' k_extra "w"
      . exact h0
      . exact h1) (by k_extra "stl") (by rfl) (by kernel_rfl)) ?_
    refine' Zes (by repeat' k_extra "w") (by kernel_rfl) ?_ Ze
    refine' Zes (by repeat' k_extra "w") (by kernel_rfl) ?_ Ze
    refine' ZbX (by repeat' k_extra "w") (by kernel_rfl) ?_ Ze
    repeat' k_extra "w") (fun lH lA=>by rw [List.length_set]; exact lH.set Zaa) (by simp)
end
theorem walk_C6_z:True:=by
  k_with "d6" => skip
  trivial
end
section
theorem Zh5 {d:Bool} {a:Str} (h:d = true):((a == a) && d) = true:=by rw [h]; simp
noncomputable def Z3 (S:MS) (n:Nat) (more:Int):Int:=((more + S.regs.getD n 0 % 2 ^ (64:Int).toNat) % 2 ^ (64:Int).toNat + 0) % 2 ^ (64:Int).toNat
theorem ZnC {size:Int} {w:Nat} (h:size = 8 * (w:Int)):size.fdiv 8 = (w:Int):=by
  subst h
  rw [Int.fdiv_eq_ediv_of_nonneg _ (by decide)]; lia
theorem walk_C7_0:True:=by
  k_with "call" => (fail_if_success k_extra "d7"); first | refine' Zbe (by assumption) ?_ ?_ | refine' ZfR (by assumption) (by assumption) (by assumption) (by assumption) | refine' ZfS (by assumption) (by assumption) (by assumption) (by assumption) ?_ ?_ | refine' ZhT (by assumption) (by assumption) (by assumption) (by assumption) ?_ ?_ | refine' Zky (by assumption) (by assumption) (by assumption) (by assumption) ?_ ?_
  trivial
section
variable {C:Cx} {k:Nat} (G:KF C.K) {H:List AObj} {b:SId} {S:MS}
include G
theorem Zgs {name:Str} {n:Nat} {size w:Int} (A:StA C.K H b S) (O:Good S) (hn:n < 16) (h0:0 ≤ size) (h1:size < 128):CallJ C (k + 4) (.ref (ma C.K "State" "put_low")) [.ref b.s,regO C.K name "xmm" (n:Int) 128,.int size,.int w] H .none (SH b H { S with xmm:=S.xmm.set n (S.xmm.getD n 0 - S.xmm.getD n 0 % 2 ^ size.toNat + w % 2 ^ size.toNat) }):=by
  rw [<- A.setX]
  have g1:=A.hs; have g2:=A.hsd; have g3:=A.hx; have lr:=O.lx
  have hn2:n < S.xmm.length:=by lia
  refine CodeJ.call ?_
  exact fn4N G.m_put_low (x0 := "self") (x1 := "register") (x2 := "size") (x3 := "worth") (by kernel_rfl) (fun _ _ _ _ _ _ _ _ _ _=>by kernel_rfl) (fun lH lA=>by
    k_extra "body"
    refine' ZbX (by repeat' k_extra "w") (Zh5 (by simp; lia)) ?_ Ze
    k_extra "let"
    repeat' k_extra "w"
    all_goals lia) (fun lH lA=>by rw [List.length_set]; exact lH.set Zaa) (by simp)
theorem Ze5 {name:Str} {n:Nat} {w:Int} (A:StA C.K H b S) (O:Good S) (hn:n < 16):CallJ C (k + 4) (.ref (ma C.K "State" "put_low")) [.ref b.s,regO C.K name "xmm" (n:Int) 128,.int 128,.int w] H .none (SH b H { S with xmm:=S.xmm.set n (w % 2 ^ (128:Int).toNat) }):=by
  have g1:=A.hs; have g2:=A.hsd
  refine CodeJ.call ?_
  exact fn4N G.m_put_low (x0 := "self") (x1 := "register") (x2 := "size") (x3 := "worth") (by kernel_rfl) (fun _ _ _ _ _ _ _ _ _ _=>by kernel_rfl) (fun lH lA=>by
    k_extra "body"
    refine' Zes (by repeat' k_extra "w") (by kernel_rfl) ?_ Ze
    repeat' k_extra "w"
    all_goals decide) (fun lH lA=>by rw [Zk]; exact lH.sh) Zk
theorem Zgt {name:Str} {n:Nat} {rs size w:Int} (A:StA C.K H b S) (O:Good S) (hn:n < 16) (h0:32 ≤ rs) (h1:rs ≤ 1000):CallJ C (k + 4) (.ref (ma C.K "State" "put_low")) [.ref b.s,regO C.K name "gpr" (n:Int) rs,.int size,.int w] H .none (SH b H { S with regs:=S.regs.set n (w % 2 ^ rs.toNat) }):=by
  have g1:=A.hs; have g2:=A.hsd
  refine CodeJ.call ?_
  exact fn4N G.m_put_low (x0 := "self") (x1 := "register") (x2 := "size") (x3 := "worth") (by kernel_rfl) (fun _ _ _ _ _ _ _ _ _ _=>by kernel_rfl) (fun lH lA=>by
    k_extra "body"
    refine' Zes (by repeat' k_extra "w") (by kernel_rfl) ?_ Ze
    repeat' k_extra "w"
    . exact h0
    . exact h1) (fun lH lA=>by rw [Zk]; exact lH.sh) Zk
theorem Zjz {name:Str} {n:Nat} {more bits:Int} (A:StA C.K H b S) (O:Good S) (hn:n < 16):CallJ C (k + 4) (.ref (ma C.K "State" "offset")) [.ref b.s,opM C.K (regO C.K name "gpr" (n:Int) 64) more bits] H (.int ((more + S.regs.getD n 0 % 2 ^ (64:Int).toNat) % 2 ^ (64:Int).toNat)) H:=by
  have g1:=A.hs; have g2:=A.hsd
  refine CodeJ.call ?_
  exact fn2R G.m_offset (x0 := "self") (x1 := "mem") (by kernel_rfl) (fun _ _ _ _ _ _ _ _=>by kernel_rfl) (fun lH lA=>by
    k_extra "let"
    refine' ZbX (by repeat' k_extra "w") (by rfl) (by
      repeat' k_extra "w"
      all_goals decide) ?_
    refine' Zs (by repeat' k_extra "w") (by rfl) ?_
    repeat' k_extra "w"
    all_goals decide) (fun _=>rfl)
end
theorem walk_C7_z:True:=by
  k_with "d7" => skip
  trivial
end
section
theorem pyl8 {x:Int}:Builtin.divisionGoesByPylong x 8 = false:=by
  have h:(if (8:Int) == 0 then 0 else (8:Int).natAbs.log2 / 30 + 1) = 1:=by decide +kernel
  unfold Builtin.divisionGoesByPylong
  simp only [h]; simp
theorem Zkk {x:Int}:Builtin.divisionGoesByPylong x 256 = false:=by
  have h:(if (256:Int) == 0 then 0 else (256:Int).natAbs.log2 / 30 + 1) = 1:=by decide +kernel
  unfold Builtin.divisionGoesByPylong
  simp only [h]; simp
theorem walk_C8_0:True:=by
  k_with "call" => (fail_if_success k_extra "d8"); first | refine' Zbe (by assumption) ?_ ?_ | refine' Zjz (by assumption) (by assumption) (by assumption) (by assumption) | refine' ZfR (by assumption) (by assumption) (by assumption) (by assumption) | refine' ZfS (by assumption) (by assumption) (by assumption) (by assumption) ?_ ?_
  trivial
section
variable {C:Cx} {k:Nat} (G:KF C.K) {H:List AObj} {b:SId} {S:MS}
include G
theorem Ze6 {name:Str} {n:Nat} {more bits:Int} (A:StA C.K H b S) (O:Good S) (hn:n < 16):CallJ C (k + 5) (.ref (ma C.K "State" "place")) [.ref b.s,opM C.K (regO C.K name "gpr" (n:Int) 64) more bits] H (.int (Z3 S n more)) H:=by
  have g1:=A.hs; have g2:=A.hsd
  refine CodeJ.call ?_
  exact fn2R G.m_place (x0 := "self") (x1 := "mem") (by kernel_rfl) (fun _ _ _ _ _ _ _ _=>by kernel_rfl) (fun lH lA=>by
    k_extra "body"
    refine' Za (Zj (Ziu (Ts.cast (by repeat' k_extra "w") (by kernel_rfl)) (by repeat' k_extra "w")) (by k_extra "stl") (by rfl) (by kernel_rfl)) ?_
    repeat' k_extra "w"
    all_goals decide) (fun _=>rfl)
end
theorem walk_C8_1:True:=by
  k_with "call" => (fail_if_success k_extra "d8"); first | refine' Zbe (by assumption) ?_ ?_ | refine' Ze6 (by assumption) (by assumption) (by assumption) (by assumption) | refine' ZfR (by assumption) (by assumption) (by assumption) (by assumption) | refine' ZfS (by assumption) (by assumption) (by assumption) (by assumption) ?_ ?_ | refine' Zgs (by assumption) (by assumption) (by assumption) (by assumption) (by assumption) (by assumption) | refine' Ze5 (by assumption) (by assumption) (by assumption) (by assumption) | refine' Zgt (by assumption) (by assumption) (by assumption) (by assumption) (by assumption) (by assumption)
  trivial
section
variable {C:Cx} {k:Nat} (G:KF C.K) {H:List AObj} {b:SId} {S:MS}
include G
theorem ZlO {name:Str} {n:Nat} {size:Int} (A:StA C.K H b S) (O:Good S) (hn:n < 16) (h0:0 ≤ size) (h1:size ≤ 1000):CallJ C (k + 4) (.ref (ma C.K "State" "read")) [.ref b.s,opR C.K (regO C.K name "xmm" (n:Int) 128),.int size] H (.int (S.xmm.getD n 0 % 2 ^ size.toNat)) H:=by
  have g1:=A.hs; have g2:=A.hsd
  refine CodeJ.call ?_
  exact fn3R G.m_read (x0 := "self") (x1 := "operand") (x2 := "size") (by kernel_rfl) (fun _ _ _ _ _ _ _ _ _=>by kernel_rfl) (fun lH lA=>by
    k_extra "brT"
    repeat' k_extra "w"
    . exact h0
    . exact h1) (fun _=>rfl)
theorem ZlQ {name:Str} {n:Nat} {rs size:Int} (A:StA C.K H b S) (O:Good S) (hn:n < 16) (r0:0 ≤ rs) (r1:rs ≤ 1000) (h0:0 ≤ size) (h1:size ≤ 1000):CallJ C (k + 4) (.ref (ma C.K "State" "read")) [.ref b.s,opR C.K (regO C.K name "gpr" (n:Int) rs),.int size] H (.int (S.regs.getD n 0 % 2 ^ rs.toNat % 2 ^ size.toNat)) H:=by
  have g1:=A.hs; have g2:=A.hsd
  refine CodeJ.call ?_
  exact fn3R G.m_read (x0 := "self") (x1 := "operand") (x2 := "size") (by kernel_rfl) (fun _ _ _ _ _ _ _ _ _=>by kernel_rfl) (fun lH lA=>by
    k_extra "brT"
    repeat' k_extra "w"
    all_goals assumption) (fun _=>rfl)
theorem ZlP {name:Str} {n w:Nat} {more bits size:Int} (A:StA C.K H b S) (O:Good S) (hn:n < 16) (hw:size = 8 * (w:Int)) (hw2:w ≤ 100):CallJ C (k + 6) (.ref (ma C.K "State" "read")) [.ref b.s,opM C.K (regO C.K name "gpr" (n:Int) 64) more bits,.int size] H (.int (ZbZ S.mem (Z3 S n more) w)) H:=by
  have g1:=A.hs; have g2:=A.hsd; have g3:=A.hM.hm; have g4:=A.hM.hmd
  refine CodeJ.call ?_
  exact fn3R G.m_read (x0 := "self") (x1 := "operand") (x2 := "size") (by kernel_rfl) (fun _ _ _ _ _ _ _ _ _=>by kernel_rfl) (fun lH lA=>by
    k_extra "brF"
    k_extra "brT"
    refine' Zy (Z1 (ZaN (by repeat' k_extra "w") (by k_extra "me") (by k_extra "able") (Zu (by repeat' k_extra "w") (Zu (Ev.cast (v:=.int (size.fdiv 8)) (by
      repeat' k_extra "w"
      . decide
      . exact pyl8) (by rw [ZnC hw])) ZH)) (ZlS G A.hM O.oc hw2))) (by intro e; cases e)) (fun _=>rfl)
theorem Zjv {name:Str} {n:Nat} {size w:Int} (A:StA C.K H b S) (O:Good S) (hn:n < 16) (h0:0 ≤ size) (h1:size < 128):CallJ C (k + 5) (.ref (ma C.K "State" "write")) [.ref b.s,opR C.K (regO C.K name "xmm" (n:Int) 128),.int size,.int w] H .none (SH b H { S with xmm:=S.xmm.set n (S.xmm.getD n 0 - S.xmm.getD n 0 % 2 ^ size.toNat + w % 2 ^ size.toNat) }):=by
  have g1:=A.hs; have g2:=A.hsd
  refine CodeJ.call ?_
  exact fn4N G.m_write (x0 := "self") (x1 := "operand") (x2 := "size") (x3 := "worth") (by kernel_rfl) (fun _ _ _ _ _ _ _ _ _ _=>by kernel_rfl) (fun lH lA=>by
    k_extra "body"
    refine' ZbX (by repeat' k_extra "w") (by kernel_rfl) ?_ Ze
    repeat' k_extra "w") (fun lH lA=>by rw [Zk]; exact lH.sh) Zk
theorem ZhP {name:Str} {n:Nat} {w:Int} (A:StA C.K H b S) (O:Good S) (hn:n < 16):CallJ C (k + 5) (.ref (ma C.K "State" "write")) [.ref b.s,opR C.K (regO C.K name "xmm" (n:Int) 128),.int 128,.int w] H .none (SH b H { S with xmm:=S.xmm.set n (w % 2 ^ (128:Int).toNat) }):=by
  have g1:=A.hs; have g2:=A.hsd
  refine CodeJ.call ?_
  exact fn4N G.m_write (x0 := "self") (x1 := "operand") (x2 := "size") (x3 := "worth") (by kernel_rfl) (fun _ _ _ _ _ _ _ _ _ _=>by kernel_rfl) (fun lH lA=>by
    k_extra "body"
    refine' ZbX (by repeat' k_extra "w") (by kernel_rfl) ?_ Ze
    repeat' k_extra "w") (fun lH lA=>by rw [Zk]; exact lH.sh) Zk
theorem Zjx {name:Str} {n:Nat} {rs size w:Int} (A:StA C.K H b S) (O:Good S) (hn:n < 16) (h0:32 ≤ rs) (h1:rs ≤ 1000):CallJ C (k + 5) (.ref (ma C.K "State" "write")) [.ref b.s,opR C.K (regO C.K name "gpr" (n:Int) rs),.int size,.int w] H .none (SH b H { S with regs:=S.regs.set n (w % 2 ^ rs.toNat) }):=by
  have g1:=A.hs; have g2:=A.hsd
  refine CodeJ.call ?_
  exact fn4N G.m_write (x0 := "self") (x1 := "operand") (x2 := "size") (x3 := "worth") (by kernel_rfl) (fun _ _ _ _ _ _ _ _ _ _=>by kernel_rfl) (fun lH lA=>by
    k_extra "body"
    refine' ZbX (by repeat' k_extra "w") (by kernel_rfl) ?_ Ze
    repeat' k_extra "w") (fun lH lA=>by rw [Zk]; exact lH.sh) Zk
theorem Zjw {name:Str} {n v:Nat} {more bits size w:Int} (A:StA C.K H b S) (O:Good S) (hn:n < 16) (hw:size = 8 * (v:Int)) (hw2:v ≤ 100):CallJ C (k + 6) (.ref (ma C.K "State" "write")) [.ref b.s,opM C.K (regO C.K name "gpr" (n:Int) 64) more bits,.int size,.int w] H .none (SH b H { S with mem:=Zaw (Z3 S n more) w S.mem v }):=by
  have g1:=A.hs; have g2:=A.hsd; have g3:=A.hM.hm; have g4:=A.hM.hmd; have lm:=O.lm
  rw [<- A.setM]
  refine CodeJ.call ?_
  exact fn4N G.m_write (x0 := "self") (x1 := "operand") (x2 := "size") (x3 := "worth") (by kernel_rfl) (fun _ _ _ _ _ _ _ _ _ _=>by kernel_rfl) (fun lH lA=>by
    k_extra "body"
    refine' Zes (by repeat' k_extra "w") (by kernel_rfl) ?_ Ze
    refine' ZbX (by repeat' k_extra "w") (by kernel_rfl) ?_ Ze
    refine' Za (Zad (ZaN (by repeat' k_extra "w") (by k_extra "me") (by k_extra "able") (Zu (by repeat' k_extra "w") (Zu (Ev.cast (v:=.int (size.fdiv 8)) (by
      repeat' k_extra "w"
      . decide
      . exact pyl8) (by rw [ZnC hw])) (Zu (by repeat' k_extra "w") ZH))) (ZfO G A.hM hw2 (by lia)))) Ze) (fun lH lA=>by rw [List.length_set]; exact lH.set (ZbO _)) (by simp)
end
theorem walk_C8_z:True:=by
  k_with "d8" => skip
  trivial
end
section
inductive Op where
  | x (n:Nat) (nm:Str)
  | g (n:Nat) (nm:Str) (rs:Int)
  | m (n:Nat) (nm:Str) (more bits:Int)
noncomputable def Op.pv (K:Frag):Op -> PV
  | .x n nm=>opR K (regO K nm "xmm" (n:Int) 128)
  | .g n nm rs=>opR K (regO K nm "gpr" (n:Int) rs)
  | .m n nm more bits=>opM K (regO K nm "gpr" (n:Int) 64) more bits
noncomputable def Op.ok:Op -> Prop
  | .x n _=>n < 16
  | .g n _ rs=>n < 16 /\ 32 <= rs /\ rs <= 1000
  | .m n _ _ _=>n < 16
noncomputable def Op.isX:Op -> Bool
  | .x _ _=>true
  | _=>false
noncomputable def rdO (S:MS) (size:Int):Op -> Int
  | .x n _=>S.xmm.getD n 0 % 2 ^ size.toNat
  | .g n _ rs=>S.regs.getD n 0 % 2 ^ rs.toNat % 2 ^ size.toNat
  | .m n _ more _=>ZbZ S.mem (Z3 S n more) (size.toNat / 8)
noncomputable def wrO (S:MS) (size w:Int):Op -> MS
  | .x n _=>{ S with xmm:=S.xmm.set n (if size < 128 then S.xmm.getD n 0 - S.xmm.getD n 0 % 2 ^ size.toNat + w % 2 ^ size.toNat else w % 2 ^ (128:Int).toNat) }
  | .g n _ rs=>{ S with regs:=S.regs.set n (w % 2 ^ rs.toNat) }
  | .m n _ more _=>{ S with mem:=Zaw (Z3 S n more) w S.mem (size.toNat / 8) }
noncomputable def Op.aligned (S:MS):Op -> Prop
  | .m n _ more _=>(Z3 S n more).fmod 16 = 0
  | _=>True
noncomputable def Siz (size:Int):Prop:=size = 32 ∨ size = 64 ∨ size = 128
theorem Siz.w {size:Int} (h:Siz size):size = 8 * ((size.toNat / 8:Nat):Int) /\ size.toNat / 8 <= 100:=by
  rcases h with rfl | rfl | rfl <;> decide
section
variable {C:Cx} {k:Nat} (G:KF C.K) {H:List AObj} {b:SId} {S:MS}
include G
theorem c_rd {o:Op} {size:Int} (A:StA C.K H b S) (O:Good S) (ho:o.ok) (hs:Siz size):CallJ C (k + 6) (.ref (ma C.K "State" "read")) [.ref b.s,o.pv C.K,.int size] H (.int (rdO S size o)) H:=by
  have h0:0 <= size:=by rcases hs with rfl | rfl | rfl <;> decide
  have h1:size <= 1000:=by rcases hs with rfl | rfl | rfl <;> decide
  cases o with
  | x n nm=>exact ZlO (k:=k + 2) G A O ho h0 h1
  | g n nm rs=>exact ZlQ (k:=k + 2) G A O ho.1 (by have:=ho.2.1; lia) ho.2.2 h0 h1
  | m n nm more bits=>exact ZlP G A O ho hs.w.1 hs.w.2
theorem c_wr {o:Op} {size w:Int} (A:StA C.K H b S) (O:Good S) (ho:o.ok) (hs:Siz size):CallJ C (k + 6) (.ref (ma C.K "State" "write")) [.ref b.s,o.pv C.K,.int size,.int w] H .none (SH b H (wrO S size w o)):=by
  have h0:0 <= size:=by rcases hs with rfl | rfl | rfl <;> decide
  cases o with
  | x n nm=>
    by_cases h:size < 128
    . have:=Zjv (k:=k + 1) (name:=nm) (w:=w) G A O ho h0 h
      simp only [wrO,if_pos h]; exact this
    . have e:size = 128:=by rcases hs with rfl | rfl | rfl <;> first | rfl | exact absurd (by decide) h
      subst e
      have:=ZhP (k:=k + 1) (name:=nm) (w:=w) G A O ho
      simp only [wrO,if_neg h]; exact this
  | g n nm rs=>exact Zjx (k:=k + 1) G A O ho.1 ho.2.1 ho.2.2
  | m n nm more bits=>exact Zjw G A O ho hs.w.1 hs.w.2
theorem ZjD {o:Op}:CallJ C (k + 1) (.ref (ga C.K "is_xmm")) [o.pv C.K] H (.bool o.isX) H:=by
  cases o with
  | x n nm=>exact (ZfQ G).cast (by kernel_rfl)
  | g n nm rs=>exact (ZfQ G).cast (by kernel_rfl)
  | m n nm more bits=>exact ZhZ G
end
theorem walk_C9_0:True:=by
  k_with "call" => (fail_if_success k_extra "d9"); first | refine' Zbe (by assumption) ?_ ?_ | refine' Ze6 (by assumption) (by assumption) (by assumption) (by assumption)
  trivial
section
variable {C:Cx} {k:Nat} (G:KF C.K) {H:List AObj} {b:SId} {S:MS}
include G
theorem ZhV {o:Op} (A:StA C.K H b S) (O:Good S) (ho:o.ok) (ha:o.aligned S):CallJ C (k + 6) (.ref (ga C.K "need_aligned")) [.ref b.s,o.pv C.K] H .none H:=by
  have g1:=A.hs; have g2:=A.hsd
  cases o with
  | x n nm=>
    refine CodeJ.call ?_
    exact fn2N G.f_need_aligned (x0 := "state") (x1 := "operand") (by kernel_rfl) (fun _ _ _ _ _ _ _ _=>by kernel_rfl) (fun lH lA=>by
      unfold Op.pv
      k_extra "body"
      refine' Zs (c:=(("reg" : Str) == "mem") && true) ?_ (by kernel_rfl) Ze
      refine' Zcx (ZdD (Ts.cast (by repeat' k_extra "w") (by kernel_rfl)))) (fun lH _=>lH) rfl
  | g n nm rs=>
    refine CodeJ.call ?_
    exact fn2N G.f_need_aligned (x0 := "state") (x1 := "operand") (by kernel_rfl) (fun _ _ _ _ _ _ _ _=>by kernel_rfl) (fun lH lA=>by
      unfold Op.pv
      k_extra "body"
      refine' Zs (c:=(("reg" : Str) == "mem") && true) ?_ (by kernel_rfl) Ze
      refine' Zcx (ZdD (Ts.cast (by repeat' k_extra "w") (by kernel_rfl)))) (fun lH _=>lH) rfl
  | m n nm more bits=>
    refine CodeJ.call ?_
    exact fn2N G.f_need_aligned (x0 := "state") (x1 := "operand") (by kernel_rfl) (fun _ _ _ _ _ _ _ _=>by kernel_rfl) (fun lH lA=>by
      unfold Op.pv
      unfold Op.aligned at ha
      unfold Op.ok at ho
      k_extra "body"
      refine' Zs (by
        repeat' k_extra "w"
        all_goals decide) (by rw [ha]; kernel_rfl) Ze) (fun lH _=>lH) rfl
end
theorem walk_C9_z:True:=by
  k_with "d9" => skip
  trivial
end
section
noncomputable def ALIGNED:List Str:=["movaps", "movdqa"]
noncomputable def WHOLE:List Str:=["movaps", "movups", "movdqa", "movdqu"]
noncomputable def BITS:List Str:=["pxor", "por", "pand", "pandn", "xorps", "orps", "andps"]
section
variable {C:Cx} {k:Nat} {H:List AObj}
theorem ZhS:CallJ C k (.builtin "str.split") ([.str (sOf (Str.ofString "ALIGNED_MOVES"))] ++ [.str (Str.ofString " ")]) H (.lst (ALIGNED.map .str)) H:=Zav (by kernel_rfl) (by decide +kernel) (by kernel_rfl)
theorem ZhR:CallJ C k (.builtin "str.split") ([.str (sOf (Str.ofString "WHOLE_MOVES"))] ++ [.str (Str.ofString " ")]) H (.lst (WHOLE.map .str)) H:=Zav (by kernel_rfl) (by decide +kernel) (by kernel_rfl)
theorem Zee:CallJ C k (.builtin "str.split") ([.str (sOf (Str.ofString "BIT_NAMES"))] ++ [.str (Str.ofString " ")]) H (.lst (BITS.map .str)) H:=Zav (by kernel_rfl) (by decide +kernel) (by kernel_rfl)
end
theorem walk_C10_0:True:=by
  k_with "call" => (fail_if_success k_extra "d10"); first | with_reducible exact ZhS | with_reducible exact ZhR | with_reducible exact Zee | refine' ZhV (by assumption) (by assumption) (by assumption) (by assumption) ?_ | refine' c_rd (by assumption) (by assumption) (by assumption) (by assumption) ?_ | refine' c_wr (by assumption) (by assumption) (by assumption) (by assumption) ?_ | refine' ZjD (by assumption) | refine' Zcs (by assumption)
  k_with "cmp" => (fail_if_success k_extra "d10"); first | exact ZaI (.fz _) | exact Zao (.fz _)
  trivial
noncomputable def Z8 (S:MS) (one other:Op):MS:=wrO S 128 (rdO S 128 other) one
noncomputable def putX (S:MS) (w:Int):Op -> MS
  | .x n _=>{ S with xmm:=S.xmm.set n (w % 2 ^ (128:Int).toNat) }
  | _=>S
noncomputable def Op.reg (K:Frag):Op -> PV
  | .x n nm=>regO K nm "xmm" (n:Int) 128
  | _=>.none
noncomputable def Z9 (S:MS) (name:Str) (one other:Op) (size:Int):MS:=if (one.isX && (!(other.isX && ((name == "movss" || (name == "movsd" || false)) && true)) && true)) = true then putX S (rdO S size other) one else wrO S size (rdO S size other) one
section
variable {C:Cx} {k:Nat} (G:KF C.K) {H:List AObj} {b:SId} {S:MS}
include G
theorem ZkS {fi:Fi} {σ:St} {o:Op} (h:o.isX = true):GaJ C k fi σ (o.pv C.K) (Str.ofString "register") (o.reg C.K) σ:=by
  cases o with
  | x n nm=>
    unfold Op.pv opR
    exact Ga_o (c := "Reg") G (p:=regO C.K nm "xmm" (n:Int) 128) (by k_extra "lk") (by kernel_rfl) (by kernel_rfl) Handed.obj
  | g _ _ _=>exact ft h
  | m _ _ _ _=>exact ft h
theorem Zkx {o:Op} {w:Int} (A:StA C.K H b S) (O:Good S) (ho:o.ok) (h:o.isX = true):CallJ C (k + 3) (.ref (ma C.K "State" "put")) [.ref b.s,o.reg C.K,.int w] H .none (SH b H (putX S w o)):=by
  cases o with
  | x n nm=>exact ZhT G A O ho (by decide) (by decide)
  | g _ _ _=>exact ft h
  | m _ _ _ _=>exact ft h
end
theorem walk_C10_1:True:=by
  k_with "call" => (fail_if_success k_extra "d10"); refine' Zkx (by assumption) (by assumption) (by assumption) (by assumption) (by assumption)
  k_with "ga" => (fail_if_success k_extra "d10"); exact ZkS (by assumption) (by assumption)
  trivial
section
variable {C:Cx} {k:Nat} (G:KF C.K) {H:List AObj} {b:SId} {S:MS}
include G
theorem ZlM {name:Str} {one other:Op} (A:StA C.K H b S) (O:Good S) (ho:one.ok) (ho':other.ok) (ha:(ALIGNED.any (· == name)) = true → one.aligned S ∧ other.aligned S):CallJ C (k + 7) (.ref (ga C.K "whole_move")) [.ref b.s,.str name,one.pv C.K,other.pv C.K] H .none (SH b H (Z8 S one other)):=by
  have g1:=A.hs; have g2:=A.hsd
  refine CodeJ.call ?_
  exact fn4N G.f_whole_move (x0 := "state") (x1 := "name") (x2 := "one") (x3 := "other") (by kernel_rfl) (fun _ _ _ _ _ _ _ _ _ _=>by kernel_rfl) (fun lH lA=>by
    k_extra "body"
    refine' Za (ZcN (c:=ALIGNED.any (· == name)) (by repeat' k_extra "w") (fun h=>by
      repeat' k_extra "w"
      . exact (ha h).1
      . exact (ha h).2) (fun h=>Ze)) ?_
    repeat' k_extra "w"
    all_goals exact .inr (.inr rfl)) (fun lH lA=>by rw [Zk]; exact lH.sh) Zk
theorem ZnN {name:Str} {one other:Op} {size:Int} (A:StA C.K H b S) (O:Good S) (ho:one.ok) (ho':other.ok) (hs:Siz size):CallJ C (k + 7) (.ref (ga C.K "part_move")) [.ref b.s,.str name,one.pv C.K,other.pv C.K,.int size] H .none (SH b H (Z9 S name one other size)):=by
  have g1:=A.hs; have g2:=A.hsd
  refine CodeJ.call ?_
  exact fn5N G.f_part_move (x0 := "state") (x1 := "name") (x2 := "one") (x3 := "other") (x4 := "size") (by kernel_rfl) (fun _ _ _ _ _ _ _ _ _ _ _=>by kernel_rfl) (fun lH lA=>by
    k_extra "body"
    refine' Za (Zj (by
      repeat' k_extra "w"
      exact hs) (by k_extra "stl") (by rfl) (by kernel_rfl)) ?_
    unfold Z9
    refine' Za (ZcN (by repeat' k_extra "w") (fun h=>?_) (fun h=>?_)) Ze
    . rw [if_pos h]
      have hx:=(Bool.and_eq_true_iff.mp h).1
      repeat' k_extra "w"
    . rw [if_neg (by rw [h]; decide)]
      repeat' k_extra "w"
      all_goals exact hs) (fun lH lA=>by rw [Zk]; exact lH.sh) Zk
end
theorem walk_C10_z:True:=by
  k_with "d10" => skip
  trivial
end
section
theorem walk_C11_0:True:=by
  k_with "call" => (fail_if_success k_extra "d11"); first | with_reducible exact ZhS | with_reducible exact ZhR | with_reducible exact Zee | refine' Zcs (by assumption) | refine' ZlM (by assumption) (by assumption) (by assumption) (by assumption) (by assumption) ?_ | refine' ZnN (by assumption) (by assumption) (by assumption) (by assumption) (by assumption) ?_
  k_with "cmp" => (fail_if_success k_extra "d11"); first | exact ZaI (.fz _) | exact Zao (.fz _)
  trivial
section
variable {C:Cx} {k:Nat} (G:KF C.K) {H:List AObj} {b:SId} {S:MS}
include G
theorem ZoA {name:Str} {one other:Op} (A:StA C.K H b S) (O:Good S) (ho:one.ok) (ho':other.ok) (hw:(WHOLE.any (· == name)) = true) (ha:(ALIGNED.any (· == name)) = true → one.aligned S ∧ other.aligned S):CallJ C (k + 8) (.ref (ga C.K "vector_move")) [.ref b.s,.str name,one.pv C.K,other.pv C.K] H (.bool true) (SH b H (Z8 S one other)):=by
  refine CodeJ.call ?_
  exact fn4G G.f_vector_move (x0 := "state") (x1 := "name") (x2 := "one") (x3 := "other") (σ':=⟨[("other", other.pv C.K),("one", one.pv C.K),("name", .str name),("state", .ref b.s)],[],SH b H (Z8 S one other),none,[]⟩) (by kernel_rfl) (fun _ _ _ _ _ _ _ _ _ _=>by kernel_rfl) (.ret _) (fun lH lA=>⟨by
    k_extra "body"
    refine' Zat (by repeat' k_extra "w") hw (by
      repeat' k_extra "w"
      exact ha) (by intro e; cases e),by rw [Zk]; exact lH.sh,rfl⟩) List.take_length (by rw [Zk]; exact Nat.le_refl _)
theorem ZoB {name:Str} {one other:Op} {size:Int} (A:StA C.K H b S) (O:Good S) (ho:one.ok) (ho':other.ok) (hw:(WHOLE.any (· == name)) = false) (hp:Zaf name = size) (hs:Siz size):CallJ C (k + 8) (.ref (ga C.K "vector_move")) [.ref b.s,.str name,one.pv C.K,other.pv C.K] H (.bool true) (SH b H (Z9 S name one other size)):=by
  refine CodeJ.call ?_
  exact fn4G G.f_vector_move (x0 := "state") (x1 := "name") (x2 := "one") (x3 := "other") (σ':=⟨[("other", other.pv C.K),("one", one.pv C.K),("name", .str name),("state", .ref b.s),("size", .int size)],[],SH b H (Z9 S name one other size),none,[]⟩) (by kernel_rfl) (fun _ _ _ _ _ _ _ _ _ _=>by kernel_rfl) (.ret _) (fun lH lA=>⟨by
    k_extra "body"
    refine' Zs (by repeat' k_extra "w") hw ?_
    refine' Za (Zj (Ev.cast (by repeat' k_extra "w") (by rw [hp])) (by k_extra "stl") (by rfl) (by kernel_rfl)) ?_
    refine' Zs (by repeat' k_extra "w") (by rcases hs with rfl | rfl | rfl <;> rfl) ?_
    repeat' k_extra "w"
    exact hs,by rw [Zk]; exact lH.sh,rfl⟩) List.take_length (by rw [Zk]; exact Nat.le_refl _)
theorem ZnK {name:Str} {one other:PV} (hw:(WHOLE.any (· == name)) = false) (hp:Zaf name = 0):CallJ C (k + 8) (.ref (ga C.K "vector_move")) [.ref b.s,.str name,one,other] H (.bool false) H:=by
  refine CodeJ.call ?_
  exact fn4R G.f_vector_move (x0 := "state") (x1 := "name") (x2 := "one") (x3 := "other") (by kernel_rfl) (fun _ _ _ _ _ _ _ _ _ _=>by kernel_rfl) (fun lH lA=>by
    k_extra "body"
    refine' Zs (by repeat' k_extra "w") hw ?_
    refine' Za (Zj (Ev.cast (by repeat' k_extra "w") (by rw [hp])) (by k_extra "stl") (by rfl) (by kernel_rfl)) ?_
    refine' Zat (by repeat' k_extra "w") (by rfl) ?_ (by intro e; cases e)
    repeat' k_extra "w") (fun _=>rfl)
end
noncomputable def ZP (K:Frag) (name:Str) (one other:PV):PV:=.obj (ga K "Instruction") [("name", .str name),("operands", .tup [one,other]),("prefix", .str "")]
theorem Zl7 {C:Cx} {k:Nat} {fi:Fi} {σ:St} {value sl:Expr} {x y:PV} (hs:ZJ sl:=by intro _ _; rfl):SbJ C k fi σ value sl (.tup [x,y]) (.int 0) x σ:=Zam (j:=0) (by decide) (by decide) (by rfl) (by rfl) hs
theorem Zl6 {C:Cx} {k:Nat} {fi:Fi} {σ:St} {value sl:Expr} {x y:PV} (hs:ZJ sl:=by intro _ _; rfl):SbJ C k fi σ value sl (.tup [x,y]) (.int 1) y σ:=Zam (j:=1) (by decide) (by decide) (by rfl) (by rfl) hs
theorem ZhX {C:Cx} {k:Nat} {H:List AObj} {x y:PV}:CallJ C k (.builtin "len") [.tup [x,y]] H (.int 2) H:=ZiG (by simp)
theorem walk_C11_1:True:=by
  k_with "sb" => (fail_if_success k_extra "d11"); first | exact Zl7 | exact Zl6
  k_with "call" => (fail_if_success k_extra "d11"); first | exact ZhX | with_reducible exact Zee | refine' ZjD (by assumption) | refine' ZoA (by assumption) (by assumption) (by assumption) (by assumption) (by assumption) (by assumption) (by assumption) | refine' ZoB (by assumption) (by assumption) (by assumption) (by assumption) (by assumption) (by assumption) (by assumption) (by assumption)
  trivial
section
variable {C:Cx} {k:Nat} (G:KF C.K) {H:List AObj} {b:SId} {S:MS}
include G
theorem ZoC {name:Str} {one other:Op} (A:StA C.K H b S) (O:Good S) (ho:one.ok) (ho':other.ok) (hx:one.isX = true ∨ other.isX = true) (hw:(WHOLE.any (· == name)) = true) (ha:(ALIGNED.any (· == name)) = true → one.aligned S ∧ other.aligned S):CallJ C (k + 9) (.ref (ga C.K "vector_deed")) [.ref b.s,ZP C.K name (one.pv C.K) (other.pv C.K)] H (.bool true) (SH b H (Z8 S one other)):=by
  refine CodeJ.call ?_
  exact fn2G G.f_vector_deed (x0 := "state") (x1 := "instruction") (σ':=⟨[("instruction", ZP C.K name (one.pv C.K) (other.pv C.K)),("state", .ref b.s),("name", .str name),("one", one.pv C.K),("other", other.pv C.K)],[],SH b H (Z8 S one other),none,[]⟩) (by kernel_rfl) (fun _ _ _ _ _ _ _ _=>by kernel_rfl) (.ret _) (fun lH lA=>⟨by
    k_extra "brF"
    k_extra "let"
    k_extra "let"
    k_extra "let"
    refine' Zs (by repeat' k_extra "w") (by rcases hx with h | h <;> simp [h]) ?_
    refine' Zat (by repeat' k_extra "w") rfl (by repeat' k_extra "w") (by intro e; cases e),by rw [Zk]; exact lH.sh,rfl⟩) List.take_length (by rw [Zk]; exact Nat.le_refl _)
theorem ZoD {name:Str} {one other:Op} {size:Int} (A:StA C.K H b S) (O:Good S) (ho:one.ok) (ho':other.ok) (hx:one.isX = true ∨ other.isX = true) (hw:(WHOLE.any (· == name)) = false) (hp:Zaf name = size) (hs:Siz size):CallJ C (k + 9) (.ref (ga C.K "vector_deed")) [.ref b.s,ZP C.K name (one.pv C.K) (other.pv C.K)] H (.bool true) (SH b H (Z9 S name one other size)):=by
  refine CodeJ.call ?_
  exact fn2G G.f_vector_deed (x0 := "state") (x1 := "instruction") (σ':=⟨[("instruction", ZP C.K name (one.pv C.K) (other.pv C.K)),("state", .ref b.s),("name", .str name),("one", one.pv C.K),("other", other.pv C.K)],[],SH b H (Z9 S name one other size),none,[]⟩) (by kernel_rfl) (fun _ _ _ _ _ _ _ _=>by kernel_rfl) (.ret _) (fun lH lA=>⟨by
    k_extra "brF"
    k_extra "let"
    k_extra "let"
    k_extra "let"
    refine' Zs (by repeat' k_extra "w") (by rcases hx with h | h <;> simp [h]) ?_
    refine' Zat (by repeat' k_extra "w") rfl (by repeat' k_extra "w") (by intro e; cases e),by rw [Zk]; exact lH.sh,rfl⟩) List.take_length (by rw [Zk]; exact Nat.le_refl _)
end
theorem walk_C11_z:True:=by
  k_with "d11" => skip
  trivial
end
section
theorem walk_C12_1:True:=by
  k_with "sb" => (fail_if_success k_extra "d12"); first | exact Zl7 | exact Zl6
  k_with "call" => (fail_if_success k_extra "d12"); first | exact ZhX | with_reducible exact Zee | refine' ZjD (by assumption) | refine' ZnK (by assumption) (by assumption) (by assumption) | refine' Zcu (by assumption) (by assumption) (by assumption) (by assumption) | refine' ZhV (by assumption) (by assumption) (by assumption) (by assumption) (by assumption) | refine' c_rd (by assumption) (by assumption) (by assumption) (by assumption) (.inr (.inr rfl)) | refine' Zeg (by assumption) | refine' ZdB (by assumption) (by assumption) (by assumption) (by assumption) (by assumption) (by assumption) (by assumption) (by assumption) | refine' Zkx (by assumption) (by assumption) (by assumption) (by assumption) (by assumption)
  k_with "ga" => (fail_if_success k_extra "d12"); exact ZkS (by assumption) (by assumption)
  k_with "cmp" => (fail_if_success k_extra "d12"); first | exact ZaI (.fz _) | exact Zao (.fz _)
  trivial
section
variable {C:Cx} {k:Nat} (G:KF C.K) {H:List AObj} {b:SId} {S:MS}
include G
theorem ZoF {name:Str} {one other:Op} (A:StA C.K H b S) (O:Good S) (ho:one.ok) (ho':other.ok) (hx:one.isX = true) (hw:(WHOLE.any (· == name)) = false) (hp:Zaf name = 0) (h1:1 <= name.length) (h2:name.length <= 1000) (h3:Zag name <= 1000) (hl:Z2 name = 0) (hb:(BITS.any (· == name)) = true) (ha:other.aligned S) :
    CallJ C (k + 9) (.ref (ga C.K "vector_deed")) [.ref b.s,ZP C.K name (one.pv C.K) (other.pv C.K)] H (.bool true) (SH b H (putX S (Zas name (rdO S 128 one) (rdO S 128 other)) one)):=by
  have g1:=A.hs; have g2:=A.hsd
  refine CodeJ.call ?_
  exact fn2G G.f_vector_deed (x0 := "state") (x1 := "instruction") (σ':=⟨[("instruction", ZP C.K name (one.pv C.K) (other.pv C.K)),("state", .ref b.s),("name", .str name),("one", one.pv C.K),("other", other.pv C.K),("size", .int 0),("first", .int (rdO S 128 one)),("second", .int (rdO S 128 other))],[],SH b H (putX S (Zas name (rdO S 128 one) (rdO S 128 other)) one),none,[]⟩) (by kernel_rfl) (fun _ _ _ _ _ _ _ _=>by kernel_rfl) (.ret _) (fun lH lA=>⟨by
    k_extra "brF"
    k_extra "let"
    k_extra "let"
    k_extra "let"
    refine' Zs (by repeat' k_extra "w") (by simp [hx]) ?_
    refine' Zs (by repeat' k_extra "w") rfl ?_
    refine' Za (Zj (Ev.cast (by repeat' k_extra "w") (by rw [hl])) (by k_extra "stl") (by rfl) (by kernel_rfl)) ?_
    refine' Zs (by repeat' k_extra "w") (by rw [hb]; rfl) ?_
    refine' Za (Zad (by repeat' k_extra "w")) ?_
    k_extra "let"
    k_extra "let"
    refine' Za (Zad (Zae (by repeat' k_extra "w") (by k_extra "me") (by k_extra "able") (Zu (by repeat' k_extra "w") (Zu (Ziu (Ts.cast (by repeat' k_extra "w") rfl) (by repeat' k_extra "w")) ZH)) (by k_extra "call"))) ?_
    repeat' k_extra "w", by rw [Zk]; exact lH.sh,rfl⟩) List.take_length (by rw [Zk]; exact Nat.le_refl _)
theorem ZoE {name:Str} {one other:Op} {size:Int} {n:Nat} (A:StA C.K H b S) (O:Good S) (ho:one.ok) (ho':other.ok) (hx:one.isX = true) (hw:(WHOLE.any (· == name)) = false) (hp:Zaf name = 0) (h1:1 <= name.length) (h2:name.length <= 1000) (h3:Zag name <= 1000) (hl:Z2 name = size) (ha:other.aligned S)
    (hs0:0 < size) (hs1:size <= 1000) (hr:Builtin.Range.rangeSize 0 128 size = ((n:Nat):Int)) (hsm:Builtin.Range.small 0 128 size = true) (hn:n <= 128) :
    CallJ C (k + 9) (.ref (ga C.K "vector_deed")) [.ref b.s,ZP C.K name (one.pv C.K) (other.pv C.K)] H (.bool true) (SH b H (putX S (ZaD name (rdO S 128 one) (rdO S 128 other) size n) one)):=by
  have g1:=A.hs; have g2:=A.hsd
  refine CodeJ.call ?_
  exact fn2G G.f_vector_deed (x0 := "state") (x1 := "instruction") (σ':=⟨[("instruction", ZP C.K name (one.pv C.K) (other.pv C.K)),("state", .ref b.s),("name", .str name),("one", one.pv C.K),("other", other.pv C.K),("size", .int size),("first", .int (rdO S 128 one)),("second", .int (rdO S 128 other))],[],SH b H (putX S (ZaD name (rdO S 128 one) (rdO S 128 other) size n) one),none,[]⟩) (by kernel_rfl) (fun _ _ _ _ _ _ _ _=>by kernel_rfl) (.ret _) (fun lH lA=>⟨by
    k_extra "brF"
    k_extra "let"
    k_extra "let"
    k_extra "let"
    refine' Zs (by repeat' k_extra "w") (by simp [hx]) ?_
    refine' Zs (by repeat' k_extra "w") rfl ?_
    refine' Za (Zj (Ev.cast (by repeat' k_extra "w") (by rw [hl])) (by k_extra "stl") (by rfl) (by kernel_rfl)) ?_
    have hne:(size == 0) = false:=by simpa using Int.ne_of_gt hs0
    refine' Zs (by repeat' k_extra "w") (by rw [hne]; rfl) ?_
    refine' Za (Zad (by repeat' k_extra "w")) ?_
    k_extra "let"
    k_extra "let"
    refine' Za (Zad (Zae (by repeat' k_extra "w") (by k_extra "me") (by k_extra "able") (Zu (by repeat' k_extra "w") (Zu (ZkX (Ts.cast (by repeat' k_extra "w") hne) (by repeat' k_extra "w")) ZH)) (by k_extra "call"))) ?_
    repeat' k_extra "w", by rw [Zk]; exact lH.sh,rfl⟩) List.take_length (by rw [Zk]; exact Nat.le_refl _)
end
theorem walk_C12_z:True:=by
  k_with "d12" => skip
  trivial
end
section
noncomputable def E64:List Str:=["rax", "rcx", "rdx", "rbx", "rsp", "rbp", "rsi", "rdi"]
noncomputable def E32:List Str:=["eax", "ecx", "edx", "ebx", "esp", "ebp", "esi", "edi"]
section
variable {C:Cx} {k:Nat} {H:List AObj}
theorem ZnL:CallJ C k (.builtin "str.split") ([.str (sOf (Str.ofString "NAMES_64"))] ++ []) H (.lst (E64.map .str)) H:=ZcF (by decide +kernel) (by kernel_rfl)
theorem ZnM:CallJ C k (.builtin "str.split") ([.str (sOf (Str.ofString "NAMES_32"))] ++ []) H (.lst (E32.map .str)) H:=ZcF (by decide +kernel) (by kernel_rfl)
end
theorem walk_C13_0:True:=by
  k_with "call" => (fail_if_success k_extra "d13"); first | with_reducible exact ZnL | with_reducible exact ZnM
  trivial
section
variable {C:Cx} {k:Nat} (G:KF C.K) {H:List AObj}
include G
theorem Zgr {name kind:Str} {num size:Int}:CallJ C (k + 2) (.ref (ga C.K "Register")) [.str name,.str kind,.int num,.int size] H (regO C.K name kind num size) H:=
  Za3 G (c := "Register") (by kernel_rfl) (by kernel_rfl) (fn5N G.m_register (x0 := "self") (x1 := "name") (x2 := "kind") (x3 := "number") (x4 := "size") (by kernel_rfl) (fun _ _ _ _ _ _ _ _ _ _ _=>by kernel_rfl) (fun lH lA=>by
    repeat' k_extra "w") (fun lH lA=>LimH.append (fun o ho=>lH o (List.mem_append_left _ ho) |> fun h=>by simpa using h) (LimH.cons rfl (LimH.cons (limI (lapp rfl)) LimH.nil))) (by simp)) (fun _=>rfl)
theorem Zh1:CallJ C (k + 1) (.ref (ga C.K "early_names")) [.int 64] H (.lst (E64.map .str)) H:=by
  refine CodeJ.call ?_
  exact fn1R G.f_early_names (x0 := "size") (by kernel_rfl) (fun _ _ _ _ _ _ _=>by kernel_rfl) (fun lH lA=>by
    refine' Zat (by repeat' k_extra "w") rfl (by repeat' k_extra "w") (by intro e; cases e)) (fun _=>Zcl _ _)
theorem Zh2:CallJ C (k + 1) (.ref (ga C.K "early_names")) [.int 32] H (.lst (E32.map .str)) H:=by
  refine CodeJ.call ?_
  exact fn1R G.f_early_names (x0 := "size") (by kernel_rfl) (fun _ _ _ _ _ _ _=>by kernel_rfl) (fun lH lA=>by
    refine' Zs (by repeat' k_extra "w") rfl ?_
    refine' Zat (by repeat' k_extra "w") rfl (by repeat' k_extra "w") (by intro e; cases e)) (fun _=>Zcl _ _)
theorem ZjB:CallJ C (k + 1) (.ref (ga C.K "late_ending")) [.int 64] H (.str "") H:=by
  refine CodeJ.call ?_
  exact fn1R G.f_late_ending (x0 := "size") (by kernel_rfl) (fun _ _ _ _ _ _ _=>by kernel_rfl) (fun lH lA=>by
    refine' Zs (by repeat' k_extra "w") rfl ?_
    refine' Zs (by repeat' k_extra "w") rfl ?_
    refine' Zs (by repeat' k_extra "w") rfl ?_
    repeat' k_extra "w") (fun _=>rfl)
theorem ZjC:CallJ C (k + 1) (.ref (ga C.K "late_ending")) [.int 32] H (.str "d") H:=by
  refine CodeJ.call ?_
  exact fn1R G.f_late_ending (x0 := "size") (by kernel_rfl) (fun _ _ _ _ _ _ _=>by kernel_rfl) (fun lH lA=>by
    refine' Zat (by repeat' k_extra "w") rfl (by repeat' k_extra "w") (by intro e; cases e)) (fun _=>rfl)
end
theorem walk_C13_z:True:=by
  k_with "d13" => skip
  trivial
end
section
theorem Zk3 (a b:Str):(a ++ b).length = a.length + b.length:=by
  show (a.cps ++ b.cps).size = _
  simp [Str.length]
noncomputable def ZeZ (size:Int):List Str:=if size = 64 then E64 else E32
noncomputable def late (size:Int):Str:=if size = 64 then "" else "d"
noncomputable def ZeV (n:Nat) (size:Int):Str:=if n < 8 then (ZeZ size).getD n "" else Str.ofString "r" ++ Str.ofString (toString (n:Int)) ++ late size
noncomputable def ZiN (n:Nat):Str:=Str.ofString "xmm" ++ Str.ofString (toString (n:Int))
theorem Ze0:∀ n < 16,(Str.ofString (toString ((n:Nat):Int))).length <= 2:=by decide +kernel
theorem Zhl {n:Nat} (h:n < 16):((n:Nat):Int).natAbs.log2 < 1920:=by
  have:((n:Nat):Int).natAbs = n:=by simp
  rw [this]
  rcases Nat.eq_zero_or_pos n with rfl | hp
  . decide
  . exact Nat.lt_of_lt_of_le ((Nat.log2_lt (by lia)).mpr (show n < 2 ^ 4 by lia)) (by decide)
section
variable {C:Cx} {k:Nat} (G:KF C.K) {H:List AObj}
include G
theorem ZlW {size:Int} (h:size = 64 ∨ size = 32):CallJ C (k + 1) (.ref (ga C.K "early_names")) [.int size] H (.lst ((ZeZ size).map .str)) H:=by
  rcases h with rfl | rfl
  . exact Zh1 G
  . exact Zh2 G
theorem ZnO {size:Int} (h:size = 64 ∨ size = 32):CallJ C (k + 1) (.ref (ga C.K "late_ending")) [.int size] H (.str (late size)) H:=by
  rcases h with rfl | rfl
  . exact ZjB G
  . exact ZjC G
end
theorem ZeY {size:Int}:∃ x xs,ZeZ size = x :: xs /\ PySem.SeqAt.shaped (.list ((x :: xs).map PyData.str)) = true:=by
  unfold ZeZ
  split
  . exact ⟨_,_,rfl,by decide +kernel⟩
  . exact ⟨_,_,rfl,by decide +kernel⟩
theorem ZhH {size:Int}:(ZeZ size).length = 8:=by unfold ZeZ; split <;> rfl
theorem Zjh {size:Int}:(late size).length <= 1:=by unfold late; split <;> decide +kernel
theorem walk_C14_0:True:=by
  k_with "call" => (fail_if_success k_extra "d14"); first | refine' ZlW (by assumption) (by assumption) | refine' ZnO (by assumption) (by assumption) | refine' Zgr (by assumption) | refine' Zj5 (Zhl (by assumption))
  trivial
section
variable {C:Cx} {k:Nat} (G:KF C.K) {H:List AObj}
include G
theorem ZlL {n:Nat} (hn:n < 16):CallJ C (k + 3) (.ref (ga C.K "xmm")) [.int (n:Int)] H (regO C.K (ZiN n) "xmm" (n:Int) 128) H:=by
  refine CodeJ.call ?_
  exact fn1R G.f_xmm (x0 := "number") (by kernel_rfl) (fun _ _ _ _ _ _ _=>by kernel_rfl) (fun lH lA=>by
    k_extra "body"
    refine' Zs (c:=false) (Ts.cast (b:=!(decide ((0:Int) ≤ (n:Int)) && decide ((n:Int) ≤ 15))) (Zei (Zej (by k_extra "w") (by k_extra "w") (by k_extra "w") (by k_extra "w") (by k_extra "w"))) (by simp; lia)) rfl ?_
    repeat' k_extra "w"
    have:=Ze0 n hn
    have h2:(Str.ofString "xmm").length = 3:=by decide +kernel
    lia) (fun _=>rfl)
theorem ZjE {n:Nat} {size:Int} (hn:n < 16) (hs:size = 64 ∨ size = 32):CallJ C (k + 3) (.ref (ga C.K "gpr")) [.int (n:Int),.int size] H (regO C.K (ZeV n size) "gpr" (n:Int) size) H:=by
  refine CodeJ.call ?_
  refine e2a1 (ZeY (size:=size)) fun e0 es ee esh=>?_
  exact fn2R G.f_gpr (x0 := "number") (x1 := "size") (by kernel_rfl) (fun _ _ _ _ _ _ _ _=>by kernel_rfl) (fun lH lA=>by
    k_extra "let"
    refine' Zs (c:=(false || (!(decide ((0:Int) ≤ (n:Int)) && decide ((n:Int) ≤ 15)) || false))) (Zcx (Zel (Zal (by k_extra "w") (ZaH ZH) (ZiE (x:=e0) (xs:=es) (by rw [← ee]; exact .fz _) (.fz _) esh)) (fun _=>Zel (Zei (Zej (by k_extra "w") (by k_extra "w") (by k_extra "w") (by k_extra "w") (by k_extra "w"))) (fun _=>Zfb)))) (by simp; lia) ?_
    have hl:=ZhH (size:=size)
    unfold ZeV
    by_cases h8:n < 8
    . rw [if_pos h8]
      have hi:n < (ZeZ size).length:=by lia
      refine' Zat (by repeat' k_extra "w") (by simp; lia) (by repeat' k_extra "w") (by intro e; cases e)
    . rw [if_neg h8]
      refine' Zs (by repeat' k_extra "w") (by simp; lia) ?_
      repeat' k_extra "w"
      . have:=Ze0 n hn
        have h2:(Str.ofString "r").length = 1:=by decide +kernel
        lia
      . have:=Ze0 n hn
        have h2:(Str.ofString "r").length = 1:=by decide +kernel
        have h3:=Zjh (size:=size)
        have h4:(Str.ofString "r" ++ Str.ofString (toString (n:Int))).length = (Str.ofString "r").length + (Str.ofString (toString (n:Int))).length:=Zk3 _ _
        lia) (fun _=>rfl)
end
theorem walk_C14_z:True:=by
  k_with "d14" => skip
  trivial
end
section
section
variable {C:Cx} {k:Nat} (G:KF C.K) {H L L':List AObj}
include G
theorem ZhU {i d:Nat} {c:Str} {knd:Str} (hi:L[i]? = some (.inst (ga C.K c) (H.length + d))) (hd:L[d]? = some (.attrs [])) (hx:cNames.contains (c,nsOf c) = true) (hn:(nsOf c).contains (Str.ofString "kind") = true) (hL:L.set d (.attrs [("kind", .str knd)]) = L') :
    CallJ C (k + 1) (.ref (ma C.K "Operand" "__init__")) [.ref (H.length + i),.str knd] (H ++ L) .none (H ++ L'):=by
  subst hL
  refine CodeJ.call ?_
  exact fn2N G.m_operand (x0 := "self") (x1 := "kind") (by kernel_rfl) (fun _ _ _ _ _ _ _ _=>by kernel_rfl) (fun lH lA=>by
    k_extra "body"
    refine' Za (Zc7 (by k_extra "w") (by k_extra "w") (ZkE G hi hd hx hn (by k_extra "stl") (by simp) rfl)) Ze) (fun lH lA=>by
      rw [List.length_append,List.length_set,<- List.length_append]
      rw [<- Zg0]
      exact lH.set rfl) (by simp)
end
theorem ZgE {C:Cx} {k:Nat} {fi:Fi} {σ:St} (G:KF C.K) {pos:Pos} (hk:(kd fi).lookup (Str.ofString "Operand") = some .globalImplicit):Ev C k fi σ (.Name (Str.ofString "Operand") pos) (.con (.ref (ga C.K "Operand"))) σ:=Ziw G (by kernel_rfl) hk (by kernel_rfl)
theorem walk_C15_0:True:=by
  k_with "name" => (fail_if_success k_extra "d15"); ((with_reducible show Ev _ _ _ _ (Expr.Name (Str.ofString "Operand") _) _ _); exact ZgE (by assumption) (by kernel_rfl))
  k_with "me" => (fail_if_success k_extra "d15"); exact Zn6 (by assumption)
  k_with "able" => (fail_if_success k_extra "d15"); first | exact Zah | exact Z4 | exact kp_m (by assumption) (by kernel_rfl)
  k_with "call" => (fail_if_success k_extra "d15"); first | exact ZhU (by assumption) (by rfl) (by rfl) (by kernel_rfl) (by kernel_rfl) (by rfl) | exact ZgM (.inl rfl) (by simp)
  trivial
section
variable {C:Cx} {k:Nat} (G:KF C.K) {H:List AObj}
include G
theorem ZoG {r:PV}:CallJ C (k + 3) (.ref (ga C.K "Reg")) [r] H (opR C.K r) H:=by
  have hc:=G.cm
  refine Za3 G (c := "Reg") (by kernel_rfl) (by kernel_rfl) (fn2N G.m_reg (x0 := "self") (x1 := "register") (by kernel_rfl) (fun _ _ _ _ _ _ _ _=>by kernel_rfl) (fun lH lA=>by
    repeat' k_extra "w") (fun lH lA=>?_) (by simp)) (fun h=>by
      exact h)
  have h:PV.lim ((H ++ [AObj.attrs [],AObj.inst (ga C.K "Reg") (H.length + 0)]).length) r = true:=by
    exact (an (an lA).2).1
  exact LimH.append (fun o ho=>by simpa using lH o (List.mem_append_left _ ho)) (LimH.cons (by show (PV.lim _ _ && true) = true; exact nd (by simpa using h) rfl) (LimH.cons (limI (lapp rfl)) LimH.nil))
theorem ZoH (D:KD C.K) {base:PV} {more bits:Int}:CallJ C (k + 3) (.ref (ga C.K "Mem")) [base,.none,.int 1,.int more,.int bits] H (opM C.K base more bits) H:=by
  have hc:=G.cm
  refine e4a3 (Ze1 D.d_mem) fun T o vs n h1 h2 h3 h4=>?_
  have hv:∃ v0 v1 v2,vs = [v0,v1,v2]:=len3 (by have:=(h4 ⟨[],[]⟩).length; simpa using this.symm)
  refine e3a0 hv fun v0 v1 v2 hqa=>?_; subst hqa
  refine Za3 G (c := "Mem") (by kernel_rfl) (by kernel_rfl) (Zds (names:=["self", "base", "index", "scale", "worth", "size", "segment", "name"]) (dps:=[.str "", .str ""]) (dvs:=[v1,v2]) (loc:=[("name", .str ""),("segment", .str ""),("size", .int bits),("worth", .int more),("scale", .int 1),("index", .none),("base", base),("self", .ref (H.length + 1))]) (o:=.next) (σ':=⟨[("name", .str ""),("segment", .str ""),("size", .int bits),("worth", .int more),("scale", .int 1),("index", .none),("base", base),("self", .ref (H.length + 1))],[],H ++ [.attrs [("kind", .str "mem"),("base", base),("index", .none),("scale", .int 1),("worth", .int more),("size", .int bits),("segment", .str ""),("name", .str "")],.inst (ga C.K "Mem") (H.length + 0)],none,[]⟩) G.m_mem (by kernel_rfl) (fun s ws X e=>?_) (fun W=>?_) rfl (fun lH lA=>⟨by
      repeat' k_extra "w", ?_,rfl⟩) .next List.take_length (by simp)) (fun h=>by
      exact h)
  . refine e6a0 (len6 e) fun w0 w1 w2 w3 w4 w5 hqa=>?_; subst hqa
    exact binds_K X h1 h2 h3 (by rfl) (by rfl)
  . have:=h4 W
    cases this with
    | cons _ r=>exact r
  . have h:PV.lim ((H ++ [AObj.attrs [],AObj.inst (ga C.K "Mem") (H.length + 0)]).length) base = true:=by
      exact (an (an lA).2).1
    exact LimH.append (fun o ho=>by simpa using lH o (List.mem_append_left _ ho)) (LimH.cons (by show (PV.lim _ _ && true) = true; exact nd (by simpa using h) rfl) (LimH.cons (limI (lapp rfl)) LimH.nil))
theorem Zh0 (D:KD C.K) {name:Str} {one other:PV}:CallJ C (k + 3) (.ref (ga C.K "Instruction")) [.str name,.tup [one,other]] H (ZP C.K name one other) H:=by
  refine e4a3 (Ze1 D.d_instr) fun T o vs n h1 h2 h3 h4=>?_
  have hv:∃ v0,vs = [v0]:=len1 (by have:=(h4 ⟨[],[]⟩).length; simpa using this.symm)
  refine e1a0 hv fun v0 hqa=>?_; subst hqa
  refine Za3 G (c := "Instruction") (by kernel_rfl) (by kernel_rfl) (Zds (names:=["self", "name", "operands", "prefix"]) (dps:=[.str ""]) (dvs:=[v0]) (loc:=[("prefix", .str ""),("operands", .tup [one,other]),("name", .str name),("self", .ref (H.length + 1))]) (o:=.next) (σ':=⟨[("prefix", .str ""),("operands", .tup [one,other]),("name", .str name),("self", .ref (H.length + 1))],[],H ++ [.attrs [("name", .str name),("operands", .tup [one,other]),("prefix", .str "")],.inst (ga C.K "Instruction") (H.length + 0)],none,[]⟩) G.m_instr (by kernel_rfl) (fun s ws X e=>?_) (fun W=>h4 W) rfl (fun lH lA=>⟨by
      repeat' k_extra "w", ?_,rfl⟩) .next List.take_length (by simp)) (fun h=>by
      exact h)
  . refine e3a0 (len3 e) fun w0 w1 w2 hqa=>?_; subst hqa
    exact binds_K X h1 h2 h3 (by rfl) (by rfl)
  . have h:PV.lim ((H ++ [AObj.attrs [],AObj.inst (ga C.K "Instruction") (H.length + 0)]).length) (.tup [one,other]) = true:=by
      exact (an (an (an lA).2).2).1
    exact LimH.append (fun o ho=>by simpa using lH o (List.mem_append_left _ ho)) (LimH.cons (by show (PV.lim _ _ && true) = true; exact nd (by simpa using h) rfl) (LimH.cons (limI (lapp rfl)) LimH.nil))
noncomputable def ZhF (K:Frag):PV:=.obj (ga K "Flags") [("cf", .int 0),("pf", .int 0),("af", .int 0),("zf", .int 0),("sf", .int 0),("of", .int 0),("df", .int 0)]
theorem ZlV:CallJ C (k + 2) (.ref (ga C.K "Flags")) [] H (ZhF C.K) H:=
  Za3 G (c := "Flags") (by kernel_rfl) (by kernel_rfl) (fn1N G.m_flags (x0 := "self") (by kernel_rfl) (fun _ _ _ _ _ _ _=>by kernel_rfl) (fun lH lA=>by
    repeat' k_extra "w") (fun lH lA=>LimH.append (fun o ho=>by simpa using lH o (List.mem_append_left _ ho)) (LimH.cons rfl (LimH.cons (limI (lapp rfl)) LimH.nil))) (by simp)) (fun _=>rfl)
theorem Zai:CallJ C (k + 1) (.ref (ma C.K "Flags" "told")) [ZhF C.K] H (.tup [.int 0,.int 0,.int 0,.int 0,.int 0,.int 0,.int 0]) H:=by
  refine CodeJ.call ?_
  exact fn1R G.m_told (x0 := "self") (by kernel_rfl) (fun _ _ _ _ _ _ _=>by kernel_rfl) (fun lH lA=>by
    repeat' k_extra "w"
    all_goals simp) (fun _=>rfl)
end
theorem walk_C15_z:True:=by
  k_with "d15" => skip
  trivial
end
section
theorem walk_C16_0:True:=by
  k_with "call" => (fail_if_success k_extra "d16"); first | exact ZbK (fun _ _ _ _=>.fz _) (by simp) | exact ZdL (fun _ _ _ _=>.fz _) (by simp) | exact ZA
  k_with "ev" => (fail_if_success k_extra "d16"); first
    | ((with_reducible show Ev _ _ _ _ (Expr.Dict [] [] _) _ _); exact Zix (by k_extra "len") (by k_extra "app"))
  k_with "ga" => (fail_if_success k_extra "d16"); exact Zn9 (by assumption) (by rfl) (by rfl) (by k_extra "lk") (by kernel_rfl) (by kernel_rfl) (by k_extra "hand")
  trivial
section
variable {C:Cx} {k:Nat} (G:KF C.K) {H:List AObj}
include G
theorem ZjA:CallJ C (k + 2) (.ref (ga C.K "Memory")) [] H (.ref (H.length + 1)) (H ++ [.attrs [("held", .ref (H.length + 2))],.inst (ga C.K "Memory") (H.length + 0),.dict []]):=
  ZcI G (c := "Memory") (by kernel_rfl) (by kernel_rfl) (fn1G G.m_memory (x0 := "self") (σ':=⟨[("self", .ref (H.length + 1))],[],H ++ [.attrs [("held", .ref (H.length + 2))],.inst (ga C.K "Memory") (H.length + 0),.dict []],none,[]⟩) (by kernel_rfl) (fun _ _ _ _ _ _ _=>by kernel_rfl) .next (fun lH lA=>⟨by
    repeat' k_extra "w", LimH.append (fun o ho=>AObj.lim_le (by simp) _ (lH o (List.mem_append_left _ ho))) (LimH.cons (Zln (lapp rfl)) (LimH.cons (limI (lapp rfl)) (LimH.cons rfl LimH.nil))),rfl⟩) List.take_length (by simp))
theorem ZnP:CallJ C (k + 3) (.ref (ga C.K "InstructionSet")) [.lst []] H (.ref (H.length + 1)) (H ++ [.attrs [("forms", .lst []),("by_name", .ref (H.length + 2)),("by_code", .ref (H.length + 3))],.inst (ga C.K "InstructionSet") (H.length + 0),.dict [],.dict []]):=
  ZcI G (c := "InstructionSet") (by kernel_rfl) (by kernel_rfl) (fn2G G.m_iset (x0 := "self") (x1 := "forms") (σ':=⟨[("forms", .lst []),("self", .ref (H.length + 1))],[],H ++ [.attrs [("forms", .lst []),("by_name", .ref (H.length + 2)),("by_code", .ref (H.length + 3))],.inst (ga C.K "InstructionSet") (H.length + 0),.dict [],.dict []],none,[]⟩) (by kernel_rfl) (fun _ _ _ _ _ _ _ _=>by kernel_rfl) .next (fun lH lA=>⟨by
    k_extra "body"
    refine' Za (by repeat' k_extra "w") ?_
    refine' Za (by repeat' k_extra "w") ?_
    refine' Za (by repeat' k_extra "w") ?_
    refine' Za (ZdJ (a:=0) (b:=0) (c:=1) (n:=0) (fun _=>[("forms", .lst []),("self", .ref (H.length + 1))]) (fun _=>H ++ [.attrs [("forms", .lst []),("by_name", .ref (H.length + 2)),("by_code", .ref (H.length + 3))],.inst (ga C.K "InstructionSet") (H.length + 0),.dict [],.dict []]) rfl (by kernel_rfl) (by
      repeat' k_extra "w") (by decide) (by decide) (by k_extra "lsub") rfl (fun _=>rfl) (fun i hi=>absurd hi (Nat.not_lt_zero _)) ?_ ?_) Ze
    . exact LimH.append (fun o ho=>AObj.lim_le (by simp) _ (lH o (List.mem_append_left _ ho))) (LimH.cons (Zlm (lapp rfl) (lapp rfl)) (LimH.cons (limI (lapp rfl)) (LimH.cons rfl (LimH.cons rfl LimH.nil))))
    . exact LimL.cons rfl (LimL.cons (limr (by simp)) LimL.nil),LimH.append (fun o ho=>AObj.lim_le (by simp) _ (lH o (List.mem_append_left _ ho))) (LimH.cons (Zlm (lapp rfl) (lapp rfl)) (LimH.cons (limI (lapp rfl)) (LimH.cons rfl (LimH.cons rfl LimH.nil)))),rfl⟩) List.take_length (by simp))
end
theorem walk_C16_z:True:=by
  k_with "d16" => skip
  trivial
end
section
section
variable {C:Cx} {k:Nat} (G:KF C.K) {H L L':List AObj}
include G
theorem ZhW {n:Nat} (hn:L.length = n) (hL:L ++ [.attrs [("held", .ref (H.length + (n + 2)))],.inst (ga C.K "Memory") (H.length + n),.dict []] = L'):CallJ C (k + 2) (.ref (ga C.K "Memory")) [] (H ++ L) (.ref (H.length + (n + 1))) (H ++ L'):=by
  have:=ZjA (k:=k) G (H:=H ++ L)
  rw [List.append_assoc,List.length_append,hn] at this
  rw [<- hL]
  simpa [Nat.add_assoc] using this
end
theorem walk_C17_0:True:=by
  k_with "call" => (fail_if_success k_extra "d17"); first | refine' ZhW (by assumption) (by k_extra "len") (by k_extra "app") | refine' ZlV (by assumption)
  k_with "bin" => (fail_if_success k_extra "d17"); exact Zj8 (.fz _) (by decide) (by decide) (by k_extra "len") (by k_extra "app")
  k_with "ev" => (fail_if_success k_extra "d17"); first
    | ((with_reducible show Ev _ _ _ _ (Expr.List _ _) _ _); refine' ZaH ?_ ?_)
    | ((with_reducible show Ev _ _ _ _ (Expr.Dict _ _ _) _ _); exact ZgG (by rfl) (by decide) (by decide) (by decide) (by decide) (by simp) (by decide))
  trivial
section
variable {C:Cx} {k:Nat} (G:KF C.K) {H:List AObj}
include G
noncomputable def ZeI (K:Frag) (n:Nat) (iset:PV):List (Str × PV):=[("iset", iset),("regs", .ref (n + 2)),("xmm", .ref (n + 3)),("flags", ZhF K),("memory", .ref (n + 5)),("rip", .int 0),("begin", .int 0),("segments", .any),("is_halted", .bool false)]
noncomputable def Zdc (K:Frag) (n:Nat) (iset:PV):List AObj:=[.attrs (ZeI K n iset),.inst (ga K "State") (n + 0),.list (List.replicate 16 (.int 0)),.list (List.replicate 16 (.int 0)),.attrs [("held", .ref (n + 6))],.inst (ga K "Memory") (n + 4),.dict []]
theorem ZlN {iset:PV}:CallJ C (k + 4) (.ref (ga C.K "State")) [iset] H (.ref (H.length + 1)) (H ++ Zdc C.K H.length iset):=
  ZcI G (c := "State") (by kernel_rfl) (by kernel_rfl) (fn2G G.m_state (x0 := "self") (x1 := "iset") (σ':=⟨[("iset", iset),("self", .ref (H.length + 1))],[],H ++ Zdc C.K H.length iset,none,[]⟩) (by kernel_rfl) (fun _ _ _ _ _ _ _ _=>by kernel_rfl) .next (fun lH lA=>⟨by
    unfold Zdc ZeI
    repeat' k_extra "w", by
    have hi:PV.lim (H ++ Zdc C.K H.length iset).length iset = true:=by
      exact PV.lim_le (by simp [Zdc]) _ (an (an lA).2).1
    refine LimH.append (fun o ho=>AObj.lim_le (by simp [Zdc]) _ (lH o (List.mem_append_left _ ho))) ?_
    unfold Zdc ZeI at hi ⊢
    exact LimH.cons (Znk hi (lapp rfl) (lapp rfl) rfl (lapp rfl) rfl) (LimH.cons (limI (lapp rfl)) (LimH.cons (by rfl) (LimH.cons (by rfl) (LimH.cons (Zln (lapp rfl)) (LimH.cons (limI (lapp rfl)) (LimH.cons rfl LimH.nil)))))),rfl⟩) List.take_length (by simp [Zdc]))
end
theorem walk_C17_z:True:=by
  k_with "d17" => skip
  trivial
end
section
noncomputable def Zg (name:Str):List Str:=if (name == "movd") = true then ["xg", "xm", "mx", "gx"] else if (name == "movq") = true then ["xg", "xm", "mx", "gx", "xx"] else if (Txt.slice name none (some 3) == "mov") = true then ["xx", "xm", "mx"] else ["xx", "xm"]
noncomputable def Zi (name:Str):Int:=if ((["movss", "movd"]:List Str).any (· == name)) = true then 32 else if ((["movsd", "movq"]:List Str).any (· == name)) = true then 64 else 128
noncomputable def facc (xs:List Int) (i:Nat):Int:=(xs.take i).foldl (fun t o=>t * 256 + o) 0
noncomputable def Zb (xs:List Int):Int:=facc xs.reverse xs.reverse.length
noncomputable def octP (w:Int) (n:Nat):List Int:=(List.range n).map fun i=>w / 256 ^ i % 256
theorem Zd8 {xs:List Int} {i:Nat} (hi:i < xs.length):facc xs (i + 1) = facc xs i * 256 + xs.getD i 0:=by
  unfold facc
  rw [List.take_succ_eq_append_getElem hi,List.foldl_append]
  simp [List.getElem?_eq_getElem hi]
theorem Zc1 {xs:List Int} (h:∀ x ∈ xs,0 <= x /\ x < 256):∀ i,i <= xs.length -> 0 <= facc xs i /\ facc xs i < 256 ^ i
  | 0,_=>by simp [facc]
  | i + 1,hi=>by
    have ih:=Zc1 h i (by lia)
    have hx:=h (xs.getD i 0) (by simp [List.getElem?_eq_getElem (show i < xs.length by lia)])
    rw [Zd8 (by lia)]
    have e:(256:Int) ^ (i + 1) = 256 ^ i * 256:=by rw [Int.pow_succ]
    rw [e]; lia
theorem Octs.rev {xs:List Int} (h:∀ x ∈ xs,0 <= x /\ x < 256):∀ x ∈ xs.reverse,0 <= x /\ x < 256:=fun x hx=>h x (List.mem_reverse.mp hx)
theorem ZeN {i:Nat} (h:i <= 100):(256:Int) ^ i <= 2 ^ (800:Nat):=by
  have:(256:Nat) ^ i <= 256 ^ 100:=Nat.pow_le_pow_right (by decide) h
  have e:(256:Nat) ^ 100 = 2 ^ 800:=by decide +kernel
  rw [e] at this
  exact_mod_cast this
theorem walk_C18_0:True:=by
  k_with "bin" => (fail_if_success k_extra "d18"); exact ZQ (by decide)
  k_with "cmp" => (fail_if_success k_extra "d18"); first | exact ZbJ
  trivial
section
variable {C:Cx} {k:Nat} (G:KF C.K) {H:List AObj}
include G
theorem ZdA {xs:List Int} (h:∀ x ∈ xs,0 ≤ x ∧ x < 256) (hl:xs.length ≤ 100):CallJ C (k + 2) (.ref (ga C.K "_law_worth")) [.lst (xs.map .int)] H (.int (Zb xs)) H:=by
  unfold Zb
  refine CodeJ.call ?_
  exact fn1R G.f_worth (x0 := "octs") (by kernel_rfl) (fun _ _ _ _ _ _ _=>by kernel_rfl) (fun lH lA=>by
    k_extra "let"
    refine' Za (Zff (xs:=xs.reverse) (fun i=>[("octs", .lst (xs.map .int)),("total", .int (facc xs.reverse i))]) (fun _=>H) rfl (by kernel_rfl) (ZmC (by k_extra "w") (.fz _) (by repeat' k_extra "w") (by lia)) (by k_extra "lsub") rfl (fun _=>rfl) (fun i hi os ho=>?_) lH (by k_extra "limL")) ?_
    . have hb:=Zc1 (Octs.rev h) i (by lia)
      have hp:=ZeN (i:=i) (by simp at hi; lia)
      refine' ⟨_,_,.inl rfl,ZaA (by k_extra "stl") <| Za (Zj (v:=.int (facc xs.reverse (i + 1))) (Ev.cast (v:=.int (facc xs.reverse i * 256 + xs.reverse.getD i 0)) (by
        repeat' k_extra "w"
        exact IntMulOk.of_le (m:=800) (n:=64) (intBits_le_iff.mpr (by lia)) (intBits_le_iff.mpr (by decide)) (by decide)) (by rw [Zd8 hi])) (by k_extra "stl") (by rfl) (by kernel_rfl)) Ze,?_⟩
      k_extra "lsub"
    . exact Zy (Z1 (by k_extra "w")) (by intro e; cases e)) (fun _=>rfl)
theorem ZnJ {name:Str} (hl:name.length ≤ 1000):CallJ C (k + 1) (.ref (ga C.K "_law_ways")) [.str name] H (.lst ((Zg name).map .str)) H:=by
  refine CodeJ.call ?_
  exact fn1R G.f_ways (x0 := "name") (by kernel_rfl) (fun _ _ _ _ _ _ _=>by kernel_rfl) (fun lH lA=>by
    unfold Zg
    k_extra "if"
    . rename_i h; rw [if_pos h]
      refine' Zy (Z1 (ZaH (by repeat' k_extra "w"))) (by intro e; cases e)
    . rename_i h; rw [if_neg (by rw [h]; decide)]
      k_extra "if"
      . rename_i h; rw [if_pos h]
        refine' Zy (Z1 (ZaH (by repeat' k_extra "w"))) (by intro e; cases e)
      . rename_i h; rw [if_neg (by rw [h]; decide)]
        refine' ZkT (c:=(Txt.slice name none (some 3) == "mov")) (Zal (Zau (by k_extra "w") .none (Zbm (by k_extra "w")) (by lia)) (by k_extra "w") (by k_extra "w")) (fun h=>?_) (by intro e; cases e) (fun h=>?_)
        . rw [if_pos h]
          refine' Zy (Z1 (ZaH (by repeat' k_extra "w"))) (by intro e; cases e)
        . rw [if_neg (by rw [h]; decide)]
          refine' Zy (Z1 (ZaH (by repeat' k_extra "w"))) (by intro e; cases e)) (fun _=>Zcl _ _)
theorem ZkB {name:Str}:CallJ C (k + 1) (.ref (ga C.K "_law_bits")) [.str name] H (.int (Zi name)) H:=by
  refine CodeJ.call ?_
  exact fn1R G.f_bits (x0 := "name") (by kernel_rfl) (fun _ _ _ _ _ _ _=>by kernel_rfl) (fun lH lA=>by
    unfold Zi
    k_extra "if"
    . rename_i h; rw [if_pos h]; repeat' k_extra "w"
    . rename_i h; rw [if_neg (by rw [h]; decide)]
      refine' Zy (Z1 (Zfg (by repeat' k_extra "w") (fun h=>by rw [if_pos h]; k_extra "w") (fun h=>by rw [if_neg (by rw [h]; decide)]; k_extra "w"))) (by intro e; cases e)) (fun _=>rfl)
end
theorem walk_C18_z:True:=by
  k_with "d18" => skip
  trivial
end
section
theorem walk_C19_0:True:=by
  k_with "bin" => (fail_if_success k_extra "d19"); first | exact ZQ (by decide) | exact Zb9 (by decide) Zkk
  k_with "call" => (fail_if_success k_extra "d19"); first | exact ZA | refine' Z6 (by k_extra "hget") ?_
  trivial
theorem ZdY (w:Int) (i:Nat):octP w (i + 1) = octP w i ++ [w / 256 ^ i % 256]:=by
  unfold octP; simp [List.range_succ]
theorem Zjq (w:Int) (i:Nat):w / 256 ^ (i + 1) = w / 256 ^ i / 256:=by
  rw [Int.pow_succ,Int.ediv_ediv_of_nonneg (Int.le_of_lt (Int.pow_pos (by decide)))]
section
variable {C:Cx} {k:Nat} (G:KF C.K) {H:List AObj}
include G
theorem Zkz {w:Int} {n:Nat} (hn:n ≤ 1000):CallJ C (k + 2) (.ref (ga C.K "_law_octs")) [.int w,.int (n:Int)] H (.lst ((octP w n).map .int)) H:=by
  refine CodeJ.call ?_
  exact fn2G G.f_octs (x0 := "worth") (x1 := "count") (σ':=⟨[("count", .int (n:Int)),("worth", .int (w / 256 ^ n)),("found", .ref H.length)],[],H ++ [.dead],none,[]⟩) (by kernel_rfl) (fun _ _ _ _ _ _ _ _=>by kernel_rfl) (.ret _) (fun lH lA=>⟨by
    k_extra "body"
    refine' Za (Zj (ZdK ZH (by simp)) (by k_extra "stl") (by rfl) (by kernel_rfl)) ?_
    refine' Za (Za9 (n:=n) (fun i=>[("count", .int (n:Int)),("worth", .int (w / 256 ^ i)),("found", .ref H.length)]) (fun i=>H ++ [.list ((octP w i).map .int)]) rfl (by kernel_rfl) (by repeat' k_extra "w") hn (by
      have e:w / 256 ^ 0 = w:=by simp
      rw [e]; k_extra "lsub") rfl (fun _=>by simp) (fun i hi os ho=>?_) (by exact LimH.append (lH.le (by simp)) (LimH.cons Zaa LimH.nil)) (LimL.cons rfl (LimL.cons rfl (LimL.cons (limr (by simp)) LimL.nil)))) ?_
    . have hlen:((octP w i).map PV.int).length <= 100000:=by simp [octP]; lia
      have hset:(H ++ [AObj.list ((octP w (i + 1)).map .int)]) ++ os.map AObj.raw = (H ++ [AObj.list ((octP w i).map PV.int)] ++ os.map AObj.raw).set H.length (AObj.list ((octP w i).map PV.int ++ [PV.int (w / 256 ^ i % 256)])):=by
        rw [ZdY,List.append_assoc,List.append_assoc,List.set_append_right _ _ (Nat.le_refl _)]; simp
      rw [hset]
      refine' ⟨_,_,.inl rfl,ZaA (by k_extra "stl") <| Za (Zad (by
        repeat' k_extra "w"
        exact hlen)) <| Za (Zj (v:=.int (w / 256 ^ (i + 1))) (Ev.cast (v:=.int (w / 256 ^ i / 256)) (by repeat' k_extra "w") (by rw [Zjq])) (by k_extra "stl") (by rfl) (by kernel_rfl)) Ze,?_⟩
      k_extra "lsub"
    . have e:(H ++ [AObj.list ((octP w n).map .int)]).set H.length .dead = H ++ [.dead]:=by simp
      rw [<- e]
      exact Zy (Zc8 (by k_extra "w") (by k_extra "hget")) (by intro e; cases e),lH,Zz⟩) (by simp) (by simp)
end
noncomputable def gnum (n:Nat):Nat:=([0,1,2,8,15]:List Nat).getD (n % 5) 0
noncomputable def ZV (letter:Str) (n:Nat) (bits:Int) (mem:Op):Op:=if (letter == "m") = true then mem else if (letter == "g") = true then .g (gnum n) (ZeV (gnum n) bits) bits else .x n (ZiN n)
theorem Zcy {C:Cx} {k:Nat} {fi:Fi} {σ:St} {value sl:Expr} {n:Nat} (hs:ZJ sl:=by intro _ _; rfl):SbJ C k fi σ value sl (.tup [.int 0,.int 1,.int 2,.int 8,.int 15]) (.int ((n:Int) % 5)) (.int (gnum n:Int)) σ:=by
  have e:(n:Int) % 5 = ((n % 5:Nat):Int):=by lia
  rw [e]
  have h5:n % 5 < 5:=Nat.mod_lt _ (by decide)
  unfold gnum
  generalize n % 5 = j at h5
  have:j = 0 ∨ j = 1 ∨ j = 2 ∨ j = 3 ∨ j = 4:=by lia
  rcases this with rfl | rfl | rfl | rfl | rfl
  . exact Zam (j:=0) (by decide) (by decide) rfl rfl hs
  . exact Zam (j:=1) (by decide) (by decide) rfl rfl hs
  . exact Zam (j:=2) (by decide) (by decide) rfl rfl hs
  . exact Zam (j:=3) (by decide) (by decide) rfl rfl hs
  . exact Zam (j:=4) (by decide) (by decide) rfl rfl hs
theorem Zbi (n:Nat):gnum n < 16:=by
  have h5:n % 5 < 5:=Nat.mod_lt _ (by decide)
  unfold gnum
  generalize n % 5 = j at h5
  have:j = 0 ∨ j = 1 ∨ j = 2 ∨ j = 3 ∨ j = 4:=by lia
  rcases this with rfl | rfl | rfl | rfl | rfl <;> decide
theorem walk_C19_1:True:=by
  k_with "sb" => (fail_if_success k_extra "d19"); exact Zcy
  k_with "call" => (fail_if_success k_extra "d19"); first | refine' ZjE (by assumption) (Zbi _) (by assumption) | refine' ZlL (by assumption) (by assumption) | refine' ZoG (by assumption)
  k_with "callname" => (fail_if_success k_extra "d19"); first
    | ((with_reducible show Ev _ _ _ _ (Expr.Call (Expr.Name (Str.ofString "Reg") _) _ _ _) _ _); refine' ZU (by assumption) (by kernel_rfl) (by kernel_rfl) (by kernel_rfl) ?_ ?_)
    | refine' ZU (by assumption) (by kernel_rfl) (by kernel_rfl) (by kernel_rfl) ?_ ?_
  trivial
section
variable {C:Cx} {k:Nat} (G:KF C.K) {H:List AObj}
include G
theorem Zct {letter:Str} {n:Nat} {bits:Int} {mem:Op} (hn:n < 16) (hb:(letter == "g") = true → bits = 64 ∨ bits = 32):CallJ C (k + 4) (.ref (ga C.K "_law_operand")) [.str letter,.int (n:Int),.int bits,mem.pv C.K] H ((ZV letter n bits mem).pv C.K) H:=by
  refine CodeJ.call ?_
  exact fn4R G.f_operand (x0 := "letter") (x1 := "number") (x2 := "bits") (x3 := "mem") (by kernel_rfl) (fun _ _ _ _ _ _ _ _ _ _=>by kernel_rfl) (fun lH lA=>by
    unfold ZV
    k_extra "if"
    . rename_i h; rw [if_pos h]; repeat' k_extra "w"
    . rename_i h; rw [if_neg (by rw [h]; decide)]
      k_extra "if"
      . rename_i h; rw [if_pos h]
        have hb':=hb h
        refine' Zy (Z1 (Ev.cast (by repeat' k_extra "w") rfl)) (by intro e; cases e)
      . rename_i h; rw [if_neg (by rw [h]; decide)]
        refine' Zy (Z1 (Ev.cast (by repeat' k_extra "w") rfl)) (by intro e; cases e)) (fun h=>by
    unfold ZV
    split
    . exact (an (an (an (an h).2).2).2).1
    . split <;> rfl)
end
theorem walk_C19_z:True:=by
  k_with "d19" => skip
  trivial
end
section
theorem walk_C20_0:True:=by
  k_with "cmp" => (fail_if_success k_extra "d20"); first | exact ZbJ
  k_with "call" => (fail_if_success k_extra "d20"); first | refine' Zf4
  trivial
theorem Zdz {n:Nat}:CmL n []:=fun _ _ e=>by exact nse e
section
variable {C:Cx} {k:Nat} (G:KF C.K) {H:List AObj}
include G
theorem Zgu {name:Str} {one other:List Int} {n:Nat} (h1:one.length = n) (h2:other.length = n) (hn:n ≤ 1000) (h:((["pxor", "xorps"]:List Str).any (· == name)) = true):CallJ C (k + 2) (.ref (ga C.K "_law_done")) [.str name,.lst (one.map .int),.lst (other.map .int)] H (.lst ((List.zipWith Builtin.bitXor one other).map .int)) H:=by
  refine CodeJ.call ?_
  exact fn3R G.f_done (x0 := "name") (x1 := "one") (x2 := "other") (by kernel_rfl) (fun _ _ _ _ _ _ _ _ _=>by kernel_rfl) (fun lH lA=>by
    k_extra "body"
    refine' Zat (by repeat' k_extra "w") h (Zy (Z1 (Zbz (cc:=[]) (n:=n) (l:=[("other", .lst (other.map .int)),("one", .lst (one.map .int)),("name", .str name)]) Builtin.bitXor rfl rfl (Nat.le_refl _) (by repeat' k_extra "w") h1 h2 (by lia) lH (by k_extra "limL") (by k_extra "lsub") Zdz (Zju (by kernel_rfl)) (by kernel_rfl) (by kernel_rfl) (by kernel_rfl) (by kernel_rfl) (fun i a b ha hb os zs ho=>by repeat' k_extra "w"))) (by intro e; cases e)) (by intro e; cases e)) (fun _=>Zz)
theorem Zh3 {name:Str} {one other:List Int} {n:Nat} (h1:one.length = n) (h2:other.length = n) (hn:n ≤ 1000) (h0:((["pxor", "xorps"]:List Str).any (· == name)) = false) (h:((["por", "orps"]:List Str).any (· == name)) = true):CallJ C (k + 2) (.ref (ga C.K "_law_done")) [.str name,.lst (one.map .int),.lst (other.map .int)] H (.lst ((List.zipWith Builtin.bitOr one other).map .int)) H:=by
  refine CodeJ.call ?_
  exact fn3R G.f_done (x0 := "name") (x1 := "one") (x2 := "other") (by kernel_rfl) (fun _ _ _ _ _ _ _ _ _=>by kernel_rfl) (fun lH lA=>by
    k_extra "body"
    refine' Zs (by repeat' k_extra "w") h0 ?_
    refine' Zat (by repeat' k_extra "w") h (Zy (Z1 (Zbz (cc:=[]) (n:=n) (l:=[("other", .lst (other.map .int)),("one", .lst (one.map .int)),("name", .str name)]) Builtin.bitOr rfl rfl (Nat.le_refl _) (by repeat' k_extra "w") h1 h2 (by lia) lH (by k_extra "limL") (by k_extra "lsub") Zdz (Zju (by kernel_rfl)) (by kernel_rfl) (by kernel_rfl) (by kernel_rfl) (by kernel_rfl) (fun i a b ha hb os zs ho=>by repeat' k_extra "w"))) (by intro e; cases e)) (by intro e; cases e)) (fun _=>Zz)
theorem Zgx {name:Str} {one other:List Int} {n:Nat} (h1:one.length = n) (h2:other.length = n) (hn:n ≤ 1000) (h0:((["pxor", "xorps"]:List Str).any (· == name)) = false) (h00:((["por", "orps"]:List Str).any (· == name)) = false) (h:((["pand", "andps"]:List Str).any (· == name)) = true):CallJ C (k + 2) (.ref (ga C.K "_law_done")) [.str name,.lst (one.map .int),.lst (other.map .int)] H (.lst ((List.zipWith Builtin.bitAnd one other).map .int)) H:=by
  refine CodeJ.call ?_
  exact fn3R G.f_done (x0 := "name") (x1 := "one") (x2 := "other") (by kernel_rfl) (fun _ _ _ _ _ _ _ _ _=>by kernel_rfl) (fun lH lA=>by
    k_extra "body"
    refine' Zs (by repeat' k_extra "w") h0 ?_
    refine' Zs (by repeat' k_extra "w") h00 ?_
    refine' Zat (by repeat' k_extra "w") h (Zy (Z1 (Zbz (cc:=[]) (n:=n) (l:=[("other", .lst (other.map .int)),("one", .lst (one.map .int)),("name", .str name)]) Builtin.bitAnd rfl rfl (Nat.le_refl _) (by repeat' k_extra "w") h1 h2 (by lia) lH (by k_extra "limL") (by k_extra "lsub") Zdz (Zju (by kernel_rfl)) (by kernel_rfl) (by kernel_rfl) (by kernel_rfl) (by kernel_rfl) (fun i a b ha hb os zs ho=>by repeat' k_extra "w"))) (by intro e; cases e)) (by intro e; cases e)) (fun _=>Zz)
theorem Ze7 {name:Str} {one other:List Int} {n:Nat} (h1:one.length = n) (h2:other.length = n) (hn:n ≤ 1000) (h0:((["pxor", "xorps"]:List Str).any (· == name)) = false) (h00:((["por", "orps"]:List Str).any (· == name)) = false) (h000:((["pand", "andps"]:List Str).any (· == name)) = false) (h:(name == "pandn") = true):CallJ C (k + 2) (.ref (ga C.K "_law_done")) [.str name,.lst (one.map .int),.lst (other.map .int)] H (.lst ((List.zipWith (fun a b=>Builtin.bitAnd (255 - a) b) one other).map .int)) H:=by
  refine CodeJ.call ?_
  exact fn3R G.f_done (x0 := "name") (x1 := "one") (x2 := "other") (by kernel_rfl) (fun _ _ _ _ _ _ _ _ _=>by kernel_rfl) (fun lH lA=>by
    k_extra "body"
    refine' Zs (by repeat' k_extra "w") h0 ?_
    refine' Zs (by repeat' k_extra "w") h00 ?_
    refine' Zs (by repeat' k_extra "w") h000 ?_
    refine' Zat (by repeat' k_extra "w") h (Zy (Z1 (Zbz (cc:=[]) (n:=n) (l:=[("other", .lst (other.map .int)),("one", .lst (one.map .int)),("name", .str name)]) (fun a b=>Builtin.bitAnd (255 - a) b) rfl rfl (Nat.le_refl _) (by repeat' k_extra "w") h1 h2 (by lia) lH (by k_extra "limL") (by k_extra "lsub") Zdz (Zju (by kernel_rfl)) (by kernel_rfl) (by kernel_rfl) (by kernel_rfl) (by kernel_rfl) (fun i a b ha hb os zs ho=>by repeat' k_extra "w"))) (by intro e; cases e)) (by intro e; cases e)) (fun _=>Zz)
end
theorem walk_C20_z:True:=by
  k_with "d20" => skip
  trivial
end
section
noncomputable def D4:List (PyData × PyData):=[(.str "b", .int 1),(.str "w", .int 2),(.str "d", .int 4),(.str "q", .int 8)]
noncomputable def tot (ad:Bool) (one other:List Int) (carry:Int) (spot:Nat):Int:=one.getD spot 0 + carry + (if ad = true then other.getD spot 0 else -(other.getD spot 0))
noncomputable def cin (ad:Bool) (one other:List Int) (a:Nat):Nat -> Int
  | 0=>0
  | j + 1=>tot ad one other (cin ad one other a j) (a + j) / 256
theorem Zox {ad:Bool} {one other:List Int} {a:Nat}:cin ad one other a 0 = 0:=rfl
theorem Zoy {ad:Bool} {one other:List Int} {a j:Nat}:cin ad one other a (j + 1) = tot ad one other (cin ad one other a j) (a + j) / 256:=rfl
noncomputable def ZY (ad:Bool) (one other:List Int) (a m:Nat):List Int:=(List.range m).map fun j=>tot ad one other (cin ad one other a j) (a + j) % 256
noncomputable def ZZ (ad:Bool) (one other:List Int) (m i:Nat):List Int:=(List.range i).flatMap fun i'=>ZY ad one other (i' * m) m
theorem ZbP {ad:Bool} {one other:List Int} {a j:Nat}:ZY ad one other a (j + 1) = ZY ad one other a j ++ [tot ad one other (cin ad one other a j) (a + j) % 256]:=by
  unfold ZY; simp [List.range_succ]
theorem ZaY {ad:Bool} {one other:List Int} {m i:Nat}:ZZ ad one other m (i + 1) = ZZ ad one other m i ++ ZY ad one other (i * m) m:=by
  unfold ZZ; simp [List.range_succ]
theorem Zap {ad:Bool} {one other:List Int} {a j:Nat}:(ZY ad one other a j).length = j:=by simp [ZY]
theorem Zbj {ad:Bool} {one other:List Int} {m:Nat}:∀ i,(ZZ ad one other m i).length = i * m
  | 0=>by simp [ZZ]
  | i + 1=>by rw [ZaY,List.length_append,Zbj i,Zap,Nat.succ_mul]
theorem Zis {C:Cx} {k:Nat} {fi:Fi} {l:List (Str × PV)} {cm:List (Str × Nat)} {H:List AObj} {ci:Option Nat} {cc:List (Str × Nat)} {keys:List (Option Expr)} {values:List Expr} {pos dpos:Pos} {sl:Expr} {x:Str} {m:Nat} (hD:litPairs keys values = some D4)
    (hall:keys.all (·.isSome) = true) (hl:keys.length = values.length) (h0:keys ≠ []) (hlen:keys.length <= 15) (h:Ev C k fi ⟨l,cm,H,ci,cc⟩ sl (.str x) ⟨l,cm,H,ci,cc⟩) (hx:Zea x D4 = some (m:Int)) (hp:ZJ sl) :
    Ev C k fi ⟨l,cm,H,ci,cc⟩ ((Expr.Dict keys values dpos).Subscript sl pos) (.int (m:Int)) ⟨l,cm,H,ci,cc⟩:=ZgF hD (by kernel_rfl) (by decide +kernel) hall hl h0 hlen h hx hp
theorem walk_C21_0:True:=by
  k_with "cmp" => (fail_if_success k_extra "d21"); first | exact ZbJ
  k_with "bin" => (fail_if_success k_extra "d21"); first | exact ZQ (by decide) | exact Zb9 (by decide) Zkk
  k_with "call" => (fail_if_success k_extra "d21"); first | exact ZcH | refine' ZaP ?_ ?_ | refine' Z6 (by exact ZaL) ?_
  k_with "me" => (fail_if_success k_extra "d21"); exact Zbv (by exact ZaL)
  trivial
section
variable {C:Cx} {k:Nat} (G:KF C.K) {H:List AObj}
include G
set_option maxHeartbeats 4000000 in
theorem Zgv {name:Str} {one other:List Int} {m n:Nat} {ad:Bool} (h1:one.length = 16) (h2:other.length = 16) (hl:1 <= name.length) (hl2:name.length <= 1000)
    (q1:((["pxor", "xorps"]:List Str).any (· == name)) = false) (q2:((["por", "orps"]:List Str).any (· == name)) = false) (q3:((["pand", "andps"]:List Str).any (· == name)) = false) (q4:(name == "pandn") = false)
    (hm:Zea (ZfD name) D4 = some (m:Int)) (hm0:0 < m) (hm1:m <= 8) (hmn:n * m = 16) (hsm:Builtin.Range.small 0 16 (m:Int) = true) (hr:Builtin.Range.rangeSize 0 16 (m:Int) = ((n:Nat):Int))
    (q6:(Txt.slice name none (some 6) == "pcmpeq") = false) (q7:(Txt.slice name none (some 4) == "padd") = ad) :
    CallJ C (k + 2) (.ref (ga C.K "_law_done")) [.str name,.lst (one.map .int),.lst (other.map .int)] H (.lst ((ZZ ad one other m n).map .int)) H:=by
  refine CodeJ.call ?_
  exact fn3G G.f_done (x0 := "name") (x1 := "one") (x2 := "other") (σ':=⟨[("other", .lst (other.map .int)),("one", .lst (one.map .int)),("name", .str name),("many", .int (m:Int)),("found", .ref H.length)],[],H ++ [.dead],none,[]⟩) (by kernel_rfl) (fun _ _ _ _ _ _ _ _ _=>by kernel_rfl) (.ret _) (fun lH lA=>⟨by
    k_extra "body"
    refine' Zs (by repeat' k_extra "w") q1 ?_
    refine' Zs (by repeat' k_extra "w") q2 ?_
    refine' Zs (by repeat' k_extra "w") q3 ?_
    refine' Zs (by repeat' k_extra "w") q4 ?_
    refine Za (σ₁:=⟨[("other", .lst (other.map .int)),("one", .lst (one.map .int)),("name", .str name),("many", .int (m:Int))],[],H,none,[]⟩) ?_ ?_
    . refine Zj (v:=.int (m:Int)) (l:=[("other", .lst (other.map .int)),("one", .lst (one.map .int)),("name", .str name)]) ?_ ?_ ?_ ?_ ?_
      rotate_left
      . k_extra "stl"
      . rfl
      . kernel_rfl
      . intro _; rfl
      with_reducible refine Zis ?_ ?_ ?_ ?_ ?_ ?_ hm ?_
      . kernel_rfl
      . kernel_rfl
      . kernel_rfl
      . simp
      . decide
      . refine Zaj (i:=.int (-1)) (σ₁:=⟨[("other", .lst (other.map .int)),("one", .lst (one.map .int)),("name", .str name)],[],H,none,[]⟩) (σ₂:=⟨[("other", .lst (other.map .int)),("one", .lst (one.map .int)),("name", .str name)],[],H,none,[]⟩) (a:=.str name) (by k_extra "w") (by repeat' k_extra "w") ?_
        exact ZfV (by kernel_rfl) (by lia) (by lia)
      . intro _ _; rfl
    refine' Za (Zj (ZdK ZH (by simp)) (by k_extra "stl") (by rfl) (by kernel_rfl)) ?_
    refine' Za (Zik (n:=n) (m:=m) (fun i=>[("other", .lst (other.map .int)),("one", .lst (one.map .int)),("name", .str name),("many", .int (m:Int)),("found", .ref H.length)]) (fun i=>H ++ [.list ((ZZ ad one other m i).map .int)]) rfl (by kernel_rfl) (by
      repeat' k_extra "w"
      . lia
      . lia) hsm hr (by k_extra "lsub") rfl (fun _=>by simp) (fun i hi os ho=>?_) (by exact LimH.append (lH.le (by simp)) (LimH.cons Zaa LimH.nil)) (LimL.cons Zz (LimL.cons Zz (LimL.cons rfl (LimL.cons rfl (LimL.cons (limr (by simp)) LimL.nil)))))) ?_
    . have hin:i * m + m <= 16:=by
        have:(i + 1) * m <= n * m:=Nat.mul_le_mul_right m hi
        rw [Nat.succ_mul] at this; lia
      rw [ZaY]
      refine ⟨[("other", .lst (other.map .int)),("one", .lst (one.map .int)),("name", .str name),("many", .int (m:Int)),("found", .ref H.length),("at", .int ((i * m:Nat):Int)),("carry", .int (cin ad one other (i * m) m))],.next,.inl rfl,?_,by k_extra "lsub"⟩
      refine ZaA (l':=[("other", .lst (other.map .int)),("one", .lst (one.map .int)),("name", .str name),("many", .int (m:Int)),("found", .ref H.length),("at", .int ((i * m:Nat):Int))]) (by k_extra "stl") ?_
      refine' Zs (Zal (Zau (by k_extra "w") .none (Zbm (by k_extra "w")) (by lia)) (by k_extra "w") (by k_extra "w")) q6 ?_
      refine' Za (Zj (by k_extra "w") (by k_extra "stl") (by rfl) (by kernel_rfl)) ?_
      refine Za (ZmA (a:=i * m) (m:=m) (fun j=>[("other", .lst (other.map .int)),("one", .lst (one.map .int)),("name", .str name),("many", .int (m:Int)),("found", .ref H.length),("at", .int ((i * m:Nat):Int)),("carry", .int (cin ad one other (i * m) j))]) (fun j=>H ++ [.list ((ZZ ad one other m i ++ ZY ad one other (i * m) j).map .int)] ++ os.map .raw) rfl (by kernel_rfl) (by
          repeat' k_extra "w") (by lia) (by lia) (by k_extra "lsub") (by simp [ZY]) (fun _=>by simp) ?_ (by exact LimH.append (LimH.append (lH.le (by simp only [List.length_append]; lia)) (LimH.cons Zaa LimH.nil)) (ZfC _)) (LimL.cons Zz (LimL.cons Zz (LimL.cons rfl (LimL.cons rfl (LimL.cons (limr (by simp)) (LimL.cons rfl (LimL.cons rfl LimL.nil)))))))) Ze
      intro j hj os' ho'
      have hs1:i * m + j < one.length:=by lia
      have hs2:i * m + j < other.length:=by lia
      have hll:((ZZ ad one other m i ++ ZY ad one other (i * m) j).map PV.int).length <= 100000:=by
        rw [List.length_map,List.length_append,Zbj,Zap]; lia
      have hset:H ++ [AObj.list ((ZZ ad one other m i ++ ZY ad one other (i * m) (j + 1)).map PV.int)] ++ os.map AObj.raw ++ os'.map AObj.raw = (H ++ [AObj.list ((ZZ ad one other m i ++ ZY ad one other (i * m) j).map PV.int)] ++ os.map AObj.raw ++ os'.map AObj.raw).set H.length (AObj.list ((ZZ ad one other m i ++ ZY ad one other (i * m) j).map PV.int ++ [PV.int (tot ad one other (cin ad one other (i * m) j) (i * m + j) % 256)])):=by
        rw [ZiT,ZbP]; simp
      rw [hset]
      refine ⟨[("other", .lst (other.map .int)),("one", .lst (one.map .int)),("name", .str name),("many", .int (m:Int)),("found", .ref H.length),("at", .int ((i * m:Nat):Int)),("carry", .int (cin ad one other (i * m) (j + 1))),("spot", .int ((i * m + j:Nat):Int)),("total", .int (tot ad one other (cin ad one other (i * m) j) (i * m + j)))],.next,.inl rfl,?_,by k_extra "lsub"⟩
      refine' ZaA (l':=[("other", .lst (other.map .int)),("one", .lst (one.map .int)),("name", .str name),("many", .int (m:Int)),("found", .ref H.length),("at", .int ((i * m:Nat):Int)),("carry", .int (cin ad one other (i * m) j)),("spot", .int ((i * m + j:Nat):Int))]) (by k_extra "stl") <| Za (Zj (v:=.int (tot ad one other (cin ad one other (i * m) j) (i * m + j))) (ZbY (by repeat' k_extra "w") (Zfg (v:=.int (if ad = true then other.getD (i * m + j) 0 else -(other.getD (i * m + j) 0))) (Ts.cast (Zal (Zau (by k_extra "w") .none (Zbm (by k_extra "w")) (by lia)) (by k_extra "w") (by k_extra "w")) q7) (fun h=>by rw [if_pos h]; repeat' k_extra "w") (fun h=>by rw [if_neg (by rw [h]; decide)]; repeat' k_extra "w")) ZiL) (by k_extra "stl") (by rfl) (by kernel_rfl)) <| Za (Zad (by
          repeat' k_extra "w"
          exact hll)) <| Za (Zj (v:=.int (cin ad one other (i * m) (j + 1))) (Ev.cast (v:=.int (tot ad one other (cin ad one other (i * m) j) (i * m + j) / 256)) (by
          repeat' k_extra "w") rfl) (by k_extra "stl") (by rfl) (by kernel_rfl)) Ze
    . have e:(H ++ [AObj.list ((ZZ ad one other m n).map .int)]).set H.length .dead = H ++ [.dead]:=by simp
      rw [<- e]
      exact Zy (Zc8 (by k_extra "w") (by k_extra "hget")) (by intro e; cases e),lH,Zz⟩) (by simp) (by simp)
end
theorem walk_C21_z:True:=by
  k_with "d21" => skip
  trivial
end
section
theorem ZaO {C:Cx} {k:Nat} {fi:Fi} {σ:St} {e:Expr} {i:Int} (h:Ev C k fi σ e (.int i) σ):EvP C k fi σ (some e) (some i):=.some h
noncomputable def ZcL (one other:List Int) (a m:Nat):Int:=if (pick one (some (a:Int)) (some ((a:Int) + (m:Int))) == pick other (some (a:Int)) (some ((a:Int) + (m:Int)))) = true then 255 else 0
noncomputable def ZM (one other:List Int) (m i:Nat):List Int:=(List.range i).flatMap fun i'=>List.replicate m (ZcL one other (i' * m) m)
theorem ZaZ {one other:List Int} {m i:Nat}:ZM one other m (i + 1) = ZM one other m i ++ List.replicate m (ZcL one other (i * m) m):=by
  unfold ZM; simp [List.range_succ]
theorem Zbk {one other:List Int} {m:Nat}:∀ i,(ZM one other m i).length = i * m
  | 0=>by simp [ZM]
  | i + 1=>by rw [ZaZ,List.length_append,Zbk i,List.length_replicate,Nat.succ_mul]
theorem walk_C22_0:True:=by
  k_with "cmp" => (fail_if_success k_extra "d22"); first | exact ZbJ
  k_with "call" => (fail_if_success k_extra "d22"); first | exact ZcH | refine' ZaP ?_ ?_
  trivial
section
variable {C:Cx} {k:Nat} (G:KF C.K) {H:List AObj}
include G
set_option maxHeartbeats 4000000 in
theorem Zgw {name:Str} {one other:List Int} {m n:Nat} (h1:one.length = 16) (h2:other.length = 16) (hl:1 <= name.length) (hl2:name.length <= 1000)
    (q1:((["pxor", "xorps"]:List Str).any (· == name)) = false) (q2:((["por", "orps"]:List Str).any (· == name)) = false) (q3:((["pand", "andps"]:List Str).any (· == name)) = false) (q4:(name == "pandn") = false)
    (hm:Zea (ZfD name) D4 = some (m:Int)) (hm0:0 < m) (hm1:m <= 8) (hmn:n * m = 16) (hsm:Builtin.Range.small 0 16 (m:Int) = true) (hr:Builtin.Range.rangeSize 0 16 (m:Int) = ((n:Nat):Int))
    (q6:(Txt.slice name none (some 6) == "pcmpeq") = true) :
    CallJ C (k + 2) (.ref (ga C.K "_law_done")) [.str name,.lst (one.map .int),.lst (other.map .int)] H (.lst ((ZM one other m n).map .int)) H:=by
  refine CodeJ.call ?_
  exact fn3R G.f_done (x0 := "name") (x1 := "one") (x2 := "other") (loc':=[("other", .lst (other.map .int)),("one", .lst (one.map .int)),("name", .str name),("many", .int (m:Int)),("found", .lst ((ZM one other m n).map .int))]) (cm':=[]) (ci':=none) (cc':=[]) (by kernel_rfl) (fun _ _ _ _ _ _ _ _ _=>by kernel_rfl) (fun lH lA=>by
    k_extra "body"
    refine' Zs (by repeat' k_extra "w") q1 ?_
    refine' Zs (by repeat' k_extra "w") q2 ?_
    refine' Zs (by repeat' k_extra "w") q3 ?_
    refine' Zs (by repeat' k_extra "w") q4 ?_
    refine Za (σ₁:=⟨[("other", .lst (other.map .int)),("one", .lst (one.map .int)),("name", .str name),("many", .int (m:Int))],[],H,none,[]⟩) ?_ ?_
    . refine Zj (v:=.int (m:Int)) (l:=[("other", .lst (other.map .int)),("one", .lst (one.map .int)),("name", .str name)]) ?_ ?_ ?_ ?_ ?_
      rotate_left
      . k_extra "stl"
      . rfl
      . kernel_rfl
      . intro _; rfl
      with_reducible refine Zis ?_ ?_ ?_ ?_ ?_ ?_ hm ?_
      . kernel_rfl
      . kernel_rfl
      . kernel_rfl
      . simp
      . decide
      . refine Zaj (i:=.int (-1)) (σ₁:=⟨[("other", .lst (other.map .int)),("one", .lst (one.map .int)),("name", .str name)],[],H,none,[]⟩) (σ₂:=⟨[("other", .lst (other.map .int)),("one", .lst (one.map .int)),("name", .str name)],[],H,none,[]⟩) (a:=.str name) (by k_extra "w") (by repeat' k_extra "w") ?_
        exact ZfV (by kernel_rfl) (by lia) (by lia)
      . intro _ _; rfl
    refine' Za (Zj (v:=.lst ((ZM one other m 0).map .int)) (ZaH ZH (by simp [ZM])) (by k_extra "stl") (by rfl) (by kernel_rfl)) ?_
    refine Za (Zik (n:=n) (m:=m) (fun i=>[("other", .lst (other.map .int)),("one", .lst (one.map .int)),("name", .str name),("many", .int (m:Int)),("found", .lst ((ZM one other m i).map .int))]) (fun i=>H) rfl (by kernel_rfl) (by
      repeat' k_extra "w"
      . lia
      . lia) hsm hr (by k_extra "lsub") rfl (fun _=>rfl) ?_ lH (LimL.cons Zz (LimL.cons Zz (LimL.cons rfl (LimL.cons rfl (LimL.cons Zz LimL.nil)))))) ?_
    . intro i hi os ho
      have hin:i * m + m <= 16:=by
        have:(i + 1) * m <= n * m:=Nat.mul_le_mul_right m hi
        rw [Nat.succ_mul] at this; lia
      have hdl:=Zbk (one:=one) (other:=other) (m:=m) i
      refine ⟨[("other", .lst (other.map .int)),("one", .lst (one.map .int)),("name", .str name),("many", .int (m:Int)),("found", .lst ((ZM one other m (i + 1)).map .int)),("at", .int ((i * m:Nat):Int))],.cont,.inr rfl,?_,by k_extra "lsub"⟩
      refine ZaA (l':=[("other", .lst (other.map .int)),("one", .lst (one.map .int)),("name", .str name),("many", .int (m:Int)),("found", .lst ((ZM one other m i).map .int)),("at", .int ((i * m:Nat):Int))]) (by k_extra "stl") ?_
      refine' Zat (Zal (Zau (by k_extra "w") .none (Zbm (by k_extra "w")) (by lia)) (by k_extra "w") (by k_extra "w")) q6 ?_ (by intro e; cases e)
      refine Za (σ₁:=⟨[("other", .lst (other.map .int)),("one", .lst (one.map .int)),("name", .str name),("many", .int (m:Int)),("found", .lst ((ZM one other m (i + 1)).map .int)),("at", .int ((i * m:Nat):Int))],[],H ++ os.map .raw,none,[]⟩) ?_ (Zy Zim (by intro e; cases e))
      refine Zj (v:=.lst ((ZM one other m (i + 1)).map .int)) (l:=[("other", .lst (other.map .int)),("one", .lst (one.map .int)),("name", .str name),("many", .int (m:Int)),("found", .lst ((ZM one other m i).map .int)),("at", .int ((i * m:Nat):Int))]) ?_ ?_ ?_ ?_ ?_
      rotate_left
      . k_extra "stl"
      . rfl
      . kernel_rfl
      . intro _; rfl
      refine Ev.cast (v:=.lst ((ZM one other m i).map .int ++ List.replicate m (.int (ZcL one other (i * m) m)))) ?_ ?_
      . refine' ZbY (a:=.lst ((ZM one other m i).map .int)) (b:=.lst (List.replicate m (.int (ZcL one other (i * m) m)))) (by k_extra "w") (Ev.cast (v:=.lst (List.replicate ((m:Nat):Int).toNat (.int (ZcL one other (i * m) m)))) (ZbY (a:=.lst [.int (ZcL one other (i * m) m)]) (b:=.int (m:Int)) (ZaH (Zu (Zfg (c:=(pick one (some ((i * m:Nat):Int)) (some (((i * m:Nat):Int) + (m:Int))) == pick other (some ((i * m:Nat):Int)) (some (((i * m:Nat):Int) + (m:Int))))) (Zal (Zby (by k_extra "w") (.fz _) (ZaO (by k_extra "w")) (ZaO (by repeat' k_extra "w")) (by lia)) (Zby (by k_extra "w") (.fz _) (ZaO (by k_extra "w")) (ZaO (by repeat' k_extra "w")) (by lia)) (Zf3 (.fz _) (.fz _))) (fun h=>by unfold ZcL; rw [if_pos h]; k_extra "w") (fun h=>by unfold ZcL; rw [if_neg (by rw [h]; decide)]; k_extra "w")) ZH) (by simp)) (by k_extra "w") (ZdM (.fz _) (by lia) (by lia))) (by simp)) (ZdN (.fz _) (.fz _) (by rw [List.length_map,hdl,List.length_replicate]; lia))
      . rw [ZaZ,List.map_append,List.map_replicate]
    . exact Zy (Z1 (by k_extra "w")) (by intro e; cases e)) (fun _=>Zz)
end
theorem walk_C22_z:True:=by
  k_with "d22" => skip
  trivial
end
section
noncomputable def vec (seed:Int) (a i:Nat):Int:=(seed * ((a:Int) + 3) * ((0 + (i:Int) * 1) + 1) * ((0 + (i:Int) * 1) + 1) + 37 * (0 + (i:Int) * 1) + 11 * (a:Int)) % 256
noncomputable def rowA (seed:Int) (a:Nat):List Int:=if a = 2 then List.replicate 16 255 else (List.range 16).map (vec seed a)
noncomputable def ZaJ (seed:Int) (i:Nat):List (List Int):=(List.range i).map (rowA seed)
noncomputable def ZaQ (seed:Int) (a:Nat):Nat:=((seed + (a:Int)) % 16).toNat
noncomputable def Zaz (seed:Int) (a:Nat):List Int:=(rowA seed a).set (ZaQ seed a) (((rowA seed a).getD (ZaQ seed a) 0 + 1) % 256)
noncomputable def ZF (seed:Int) (i:Nat):List (List Int):=ZaJ seed 8 ++ (List.range i).map (Zaz seed)
theorem Zf9 {seed:Int} {i:Nat}:ZaJ seed (i + 1) = ZaJ seed i ++ [rowA seed i]:=by unfold ZaJ; simp [List.range_succ]
theorem Zf8 {seed:Int} {i:Nat}:ZF seed (i + 1) = ZF seed i ++ [Zaz seed i]:=by unfold ZF; simp [List.range_succ]
theorem Zdd {seed:Int} {a:Nat}:(rowA seed a).length = 16:=by unfold rowA; split <;> simp
theorem Zk7 {seed:Int} {a:Nat}:ZaQ seed a < 16 /\ ((ZaQ seed a:Nat):Int) = (seed + (a:Int)) % 16:=by unfold ZaQ; exact n16 _
theorem Zg2 {seed:Int} {i a:Nat} (ha:a < 8):(ZF seed i).getD a [] = rowA seed a:=by
  unfold ZF ZaJ
  rw [List.getD_eq_getElem?_getD,List.getElem?_append_left (by simpa using ha)]
  simp [ha]
noncomputable def atV:Nat -> Option PV
  | 0=>none
  | i + 1=>some (.int (i:Int))
noncomputable def atW:Nat -> Option PV
  | 0=>some (.int 7)
  | i + 1=>some (.int (i:Int))
noncomputable def VL (H:List AObj) (at_:Option PV) (seed:Int) (rows:List (List Int)):List AObj:=H ++ [.cell at_,.cell (some (.int seed)),.list (rows.map rowP)]
theorem ZE {H:List AObj} {at_:Option PV} {seed:Int} {rows:List (List Int)}:(VL H at_ seed rows).length = H.length + 3:=by simp [VL]
theorem Zh7 {H X:List AObj} {at_:Option PV} {seed:Int} {rows:List (List Int)}:(VL H at_ seed rows ++ X)[H.length]? = some (.cell at_):=by simp [VL]
theorem Ze9 {H X:List AObj} {at_:Option PV} {seed:Int} {rows:List (List Int)}:(VL H at_ seed rows ++ X)[H.length + 1]? = some (.cell (some (.int seed))):=by simp [VL]
theorem Zfa {H X:List AObj} {at_:Option PV} {seed:Int} {rows:List (List Int)}:(VL H at_ seed rows ++ X)[H.length + 2]? = some (.list (rows.map rowP)):=by simp [VL]
theorem Zeh {H:List AObj} {at_ at2:Option PV} {seed:Int} {rows:List (List Int)}:(VL H at_ seed rows).set H.length (.cell at2) = VL H at2 seed rows:=by
  unfold VL; rw [List.set_append_right _ _ (Nat.le_refl _)]; simp
theorem Zgy {H X:List AObj} {at_:Option PV} {seed:Int} {rows rows':List (List Int)}:(VL H at_ seed rows ++ X).set (H.length + 2) (.list (rows'.map rowP)) = VL H at_ seed rows' ++ X:=by
  unfold VL; rw [List.append_assoc,List.set_append_right _ _ (by lia)]; simp
theorem ZfT {H:List AObj} {at_:Option PV} {seed:Int} {rows:List (List Int)} (lH:LimH H.length H) (ha:at_ = none ∨ ∃ i,at_ = some (.int i)):LimH (H.length + 3) (VL H at_ seed rows):=
  LimH.append (lH.le (by lia)) (LimH.cons (by rcases ha with rfl | ⟨i,rfl⟩ <;> rfl) (LimH.cons rfl (LimH.cons Zdj LimH.nil)))
theorem Zh4 {rows:List (List Int)} {r:List Int}:rows.map rowP ++ [PV.lst (r.map .int)] = (rows ++ [r]).map rowP:=by simp [rowP]
theorem Zh6 {H X:List AObj} {at_:Option PV} {seed:Int} {rows:List (List Int)} {r:List Int}:VL H at_ seed (rows ++ [r]) ++ X = (VL H at_ seed rows ++ X).set (H.length + 2) (.list (rows.map rowP ++ [.lst (r.map .int)])):=by
  rw [Zh4,Zgy]
theorem walk_C23_0:True:=by
  k_with "bin" => (fail_if_success k_extra "d23"); exact ZQ (by decide)
  k_with "hget1" => (fail_if_success k_extra "d23"); first | with_reducible assumption | with_reducible exact Zh7 | with_reducible exact Ze9 | with_reducible exact Zfa | with_reducible exact Zdp
  k_with "call" => (fail_if_success k_extra "d23"); first | exact ZA | refine' Z6 (by k_extra "hget1") ?_
  k_with "me" => (fail_if_success k_extra "d23"); exact Zbv (by k_extra "hget1")
  trivial
section
variable {C:Cx} {k:Nat} (G:KF C.K) {H:List AObj}
include G
set_option maxHeartbeats 4000000 in
theorem Zgq {seed:Int} (h0:0 <= seed) (h1:seed < 99991) {i:Nat} (hi:i < 8) {os:List Obj} :
    Ex C (k + 1) ⟨(FN 64).qual,(FN 64).scope,ga C.K "_law_vectors", (ZL C.K (ga C.K "_law_vectors")).code,none⟩ ⟨[("rows", .ref (H.length + 2))],[("at", H.length),("seed", H.length + 1)],VL H (some (.int (i:Int))) seed (ZaJ seed i) ++ os.map .raw,none,[]⟩
      (Zh (stAt (FN 64).body 1)) .next ⟨[("rows", .ref (H.length + 2))],[("at", H.length),("seed", H.length + 1)],VL H (some (.int (i:Int))) seed (ZaJ seed (i + 1)) ++ os.map .raw,none,[]⟩:=by
  have hlr:((ZaJ seed i).map rowP).length <= 100000:=by simp [ZaJ]; lia
  have b1:Builtin.Int.intBits seed <= 17:=intBits_le_iff.mpr (by lia)
  have b2:Builtin.Int.intBits ((i:Int) + 3) <= 4:=intBits_le_iff.mpr (by lia)
  rw [Zf9,Zh6]
  show Ex _ _ _ _ [.If _ _ _ _] _ _
  refine Za (ZcN (c:=((i:Int) == 2)) (by repeat' k_extra "w") (fun h=>?_) (fun h=>?_)) Ze
  . have h2:i = 2:=by
      have:(i:Int) = 2:=by simpa using h
      lia
    have e:rowA seed i = List.replicate 16 255:=by unfold rowA; rw [if_pos h2]
    rw [e]
    refine' Za (Zad (v:=.none) (Zae (by k_extra "w") (by k_extra "me") (by k_extra "able") (Zu (Ev.cast (v:=.lst (List.replicate (16:Int).toNat (.int 255))) (v':=.lst ((List.replicate 16 (255:Int)).map .int)) (ZbY (ZaH (by repeat' k_extra "w") (by simp)) (by k_extra "w") (ZdM (.fz _) (by decide) (by decide))) (by rw [List.map_replicate]; rfl)) ZH) (by exact Z6 (by k_extra "hget1") hlr))) Ze
  . have h2:i ≠ 2:=fun e=>by subst e; simp at h
    have e:rowA seed i = (List.range 16).map (vec seed i):=by unfold rowA; rw [if_neg h2]
    rw [e]
    refine' Za (Zad (v:=.none) (Zae (by k_extra "w") (by k_extra "me") (by k_extra "able") (Zu (Zew (a:=0) (b:=16) (c:=1) (n:=16) (cc:=[("at", H.length),("seed", H.length + 1)]) (vec seed i) rfl (by repeat' k_extra "w") (by decide) (by decide) (by decide) (Zjt (by kernel_rfl) (by kernel_rfl) (by k_extra "lkN") (by k_extra "lkN")) (by kernel_rfl) (by kernel_rfl) (fun j hj os' ho'=>?_)) ZH) (by exact Z6 (by k_extra "hget1") hlr))) Ze
    have b3:Builtin.Int.intBits ((0 + (j:Int) * 1) + 1) <= 5:=intBits_le_iff.mpr (by lia)
    unfold vec
    repeat' k_extra "w"
    . exact IntMulOk.of_le b1 b2 (by decide)
    . exact IntMulOk.of_le (intBits_mul_le b1 b2) b3 (by decide)
    . exact IntMulOk.of_le (intBits_mul_le (intBits_mul_le b1 b2) b3) b3 (by decide)
    . exact IntMulOk.of_le (m:=64) (n:=64) (intBits_le_iff.mpr (by decide)) (intBits_le_iff.mpr (by lia)) (by decide)
    . exact IntMulOk.of_le (m:=64) (n:=64) (intBits_le_iff.mpr (by decide)) (intBits_le_iff.mpr (by lia)) (by decide)
end
theorem walk_C23_z:True:=by
  k_with "d23" => skip
  trivial
end
section
theorem Zg1 {P:List AObj} {a b:AObj}:(P ++ [a]).set P.length b = P ++ [b]:=by rw [List.set_append_right _ _ (Nat.le_refl _)]; simp
theorem ZnU {C:Cx} {k:Nat} {fi:Fi} {l:List (Str × PV)} {cm:List (Str × Nat)} {P:List AObj} {ci:Option Nat} {cc:List (Str × Nat)} {j:Nat} {xs:List Int} {v:Int} (hj:j < xs.length) (hz:xs.length <= 100000):SiJ C k fi ⟨l,cm,P ++ [.list (xs.map .int)],ci,cc⟩ (.ref P.length) (.int (j:Int)) (.int v) ⟨l,cm,P ++ [.list ((xs.set j v).map .int)],ci,cc⟩:=by
  have:=Zgz (C:=C) (k:=k) (fi:=fi) (l:=l) (cm:=cm) (ci:=ci) (cc:=cc) (H:=P ++ [.list (xs.map .int)]) (i:=P.length) (v:=v) (xs:=xs) (by simp) hj hz
  rwa [Zg1] at this
theorem walk_C24_0:True:=by
  k_with "bin" => (fail_if_success k_extra "d24"); exact ZQ (by decide)
  k_with "hget1" => (fail_if_success k_extra "d24"); first | with_reducible assumption | with_reducible exact Zh7 | with_reducible exact Ze9 | with_reducible exact Zfa | with_reducible exact Zdp
  k_with "call" => (fail_if_success k_extra "d24"); first | exact ZA | refine' ZiF (fun _ _ _ _=>.fz _) ?_
  k_with "me" => (fail_if_success k_extra "d24"); exact Zbv (by k_extra "hget")
  k_with "si" => (fail_if_success k_extra "d24"); exact ZnU (by assumption) (by lia)
  k_with "sb" => (fail_if_success k_extra "d24"); first | exact ZgA (.led (by k_extra "hget")) (by assumption) (by assumption) | exact ZdF (.led (by k_extra "hget")) (by assumption) (by lia)
  trivial
section
variable {C:Cx} {k:Nat} (G:KF C.K) {H:List AObj}
include G
set_option maxHeartbeats 4000000 in
theorem Ze3 {seed:Int} {i c1 c2 c3:Nat} (hi:i < 8) {P:List AObj} (hP1:P[c1]? = some (.cell (some (.int (i:Int))))) (hP2:P[c2]? = some (.cell (some (.int seed)))) (hP3:P[c3]? = some (.list ((ZF seed i).map rowP))) (hl3:c3 < P.length) (lP:LimH P.length P) :
    Ex C (k + 1) ⟨(FN 64).qual,(FN 64).scope,ga C.K "_law_vectors", (ZL C.K (ga C.K "_law_vectors")).code,none⟩ ⟨[("rows", .ref c3)],[("at", c1),("seed", c2)],P,none,[]⟩
      (Zh (stAt (FN 64).body 2)) .next ⟨[("rows", .ref c3),("near", .lst ((Zaz seed i).map .int)),("spot", .int (ZaQ seed i:Int))],[("at", c1),("seed", c2)],P.set c3 (.list ((ZF seed i).map rowP ++ [.lst ((Zaz seed i).map .int)])),none,[]⟩:=by
  show Ex _ _ _ _ (_ :: _) _ _
  have hlr:((ZF seed i).map rowP).length <= 100000:=by simp [ZF,ZaJ]; lia
  have hlr2:(ZF seed i).length <= 100000:=by simpa using hlr
  have hir:i < (ZF seed i).length:=by simp [ZF,ZaJ]
  have hg:=Zg2 (seed:=seed) (i:=i) hi
  refine e0a1 (Zk7 (seed:=seed) (a:=i)) fun hs hse=>?_
  have hrl:=Zdd (seed:=seed) (a:=i)
  have hsr:ZaQ seed i < (rowA seed i).length:=by lia
  refine Zof (n:=P.length) (σ₁:=⟨[("rows", .ref c3),("near", .lst ((Zaz seed i).map .int)),("spot", .int (ZaQ seed i:Int))],[("at", c1),("seed", c2)],P.set c3 (.list ((ZF seed i).map rowP ++ [.lst ((Zaz seed i).map .int)])) ++ [.dead],none,[]⟩) ?_ (Nat.le_refl _) ?_ ?_ ?_ ?_ (fun v e=>by cases e) rfl rfl rfl
  . refine' Za (Zj (v:=.ref P.length) (l:=[("rows", .ref c3)]) (H:=P ++ [.list ((rowA seed i).map .int)]) (by
      rw [<- hg]
      repeat' k_extra "w"
      rw [List.length_map,hg,hrl]; decide) (by k_extra "stl") (by rfl) (by kernel_rfl)) ?_
    refine' Za (Zj (v:=.int (ZaQ seed i:Int)) (Ev.cast (v:=.int ((seed + (i:Int)) % 16)) (by repeat' k_extra "w") (by rw [hse])) (by k_extra "stl") (by rfl) (by kernel_rfl)) ?_
    refine' Za (σ₁:=⟨[("rows", .ref c3),("near", .ref P.length),("spot", .int (ZaQ seed i:Int))],[("at", c1),("seed", c2)],P ++ [.list ((Zaz seed i).map .int)],none,[]⟩) (by
      unfold Zaz
      repeat' k_extra "w") ?_
    refine Zoe (x := "near") (j:=P.length) (xs:=(Zaz seed i).map .int) (by k_extra "lk") (by simp) ?_
    show Ex _ _ _ ⟨stl _ _ _,_,List.set _ _ _,_,_⟩ _ _ _
    rw [Zg1]
    refine ZaA (l':=[("rows", .ref c3),("near", .lst ((Zaz seed i).map .int)),("spot", .int (ZaQ seed i:Int))]) (by k_extra "stl") ?_
    have e:P.set c3 (AObj.list ((ZF seed i).map rowP ++ [PV.lst ((Zaz seed i).map .int)])) ++ [AObj.dead] = (P ++ [AObj.dead]).set c3 (AObj.list ((ZF seed i).map rowP ++ [PV.lst ((Zaz seed i).map .int)])):=by rw [List.set_append_left _ _ hl3]
    rw [e]
    refine' Za (Zad (v:=.none) (Zae (by k_extra "w") (by k_extra "me") (by k_extra "able") (by repeat' k_extra "w") (by exact Z6 (by k_extra "hget") hlr))) Ze
  . rw [List.take_append_of_le_length (by simp)]; rw [List.take_of_length_le (by simp)]
  . simp
  . exact lP.set (by rw [Zh4]; exact Zdj)
  . exact LimL.cons (limr (by simpa using hl3)) (LimL.cons Zz (LimL.cons rfl LimL.nil))
theorem Zgp {seed:Int} {i:Nat} (hi:i < 8) {os:List Obj} (lH:LimH H.length H) :
    Ex C (k + 1) ⟨(FN 64).qual,(FN 64).scope,ga C.K "_law_vectors", (ZL C.K (ga C.K "_law_vectors")).code,none⟩ ⟨[("rows", .ref (H.length + 2))],[("at", H.length),("seed", H.length + 1)],VL H (some (.int (i:Int))) seed (ZF seed i) ++ os.map .raw,none,[]⟩
      (Zh (stAt (FN 64).body 2)) .next ⟨[("rows", .ref (H.length + 2)),("near", .lst ((Zaz seed i).map .int)),("spot", .int (ZaQ seed i:Int))],[("at", H.length),("seed", H.length + 1)],VL H (some (.int (i:Int))) seed (ZF seed (i + 1)) ++ os.map .raw,none,[]⟩:=by
  have:=Ze3 (k:=k) G (seed:=seed) hi (P:=VL H (some (.int (i:Int))) seed (ZF seed i) ++ os.map .raw) Zh7 Ze9 Zfa (by rw [List.length_append,ZE]; lia) (by
    refine LimH.append ((ZfT lH (.inr ⟨_,rfl⟩)).le (by rw [List.length_append,ZE]; lia)) (ZfC _))
  rwa [<- Zh6,<- Zf8] at this
set_option maxHeartbeats 4000000 in
theorem ZhQ {seed:Int} (h0:0 ≤ seed) (h1:seed < 99991):CallJ C (k + 2) (.ref (ga C.K "_law_vectors")) [.int seed] H (.ref (H.length + 2)) (VL H (some (.int 7)) seed (ZF seed 8)):=by
  refine CodeJ.call ?_
  exact Zb4 G.f_vectors (names:=["seed"]) (offs:=[("at", 1),("seed", 0)]) (cm:=[("at", H.length),("seed", H.length + 1)]) (cobs:=[.cell none,.cell (some (.int seed))]) (loc:=[]) (σ':=⟨[("rows", .ref (H.length + 2))],[("at", H.length),("seed", H.length + 1)],VL H (some (.int 7)) seed (ZF seed 8),none,[]⟩)
    (by kernel_rfl) (fun s vs _ h=>by refine e1a0 (len1 h) fun v0 hqa=>?_; subst hqa; rw [List.append_nil]; exact BindsTo.of_eq (Zcv G.f_vectors (by kernel_rfl) (fun _ _ _ _ _ _=>by kernel_rfl))) (fun n=>by kernel_rfl) (by decide +kernel) (by decide +kernel) (by kernel_rfl) (by kernel_rfl) (by kernel_rfl)
    (fun lH lA=>by
      have l3:=ZfT (seed:=seed) (at_:=some (.int 7)) (rows:=ZF seed 8) lH (.inr ⟨_,rfl⟩)
      refine ⟨?_,by rw [ZE]; exact l3,limr (by simp [ZE])⟩
      k_extra "body"
      refine Za (σ₁:=⟨[("rows", .ref (H.length + 2))],[("at", H.length),("seed", H.length + 1)],VL H (atV 0) seed (ZaJ seed 0),none,[]⟩) ?_ ?_
      . have:=ZdK (C:=C) (k:=k + 1) (fi:=⟨(FN 64).qual,(FN 64).scope,ga C.K "_law_vectors", (ZL C.K (ga C.K "_law_vectors")).code,none⟩) (l:=[]) (cm:=[("at", H.length),("seed", H.length + 1)]) (H:=H ++ [.cell none,.cell (some (.int seed))]) (ci:=none) (cc:=[]) (es:=[]) (pos:=⟨491,11,491,13⟩) (σ:=⟨[],[("at", H.length),("seed", H.length + 1)],H ++ [.cell none,.cell (some (.int seed))],none,[]⟩) ZH (by simp)
        have e1:(H ++ [AObj.cell none,.cell (some (.int seed))]).length = H.length + 2:=by simp
        have e2:H ++ [AObj.cell none,.cell (some (.int seed))] ++ [.list []] = VL H (atV 0) seed (ZaJ seed 0):=by simp [VL,atV,ZaJ]
        rw [e1,e2] at this
        exact Zj this (by k_extra "stl") rfl (by kernel_rfl)
      refine Za (Zbw (n:=8) (c:=H.length) (cm:=[("at", H.length),("seed", H.length + 1)]) (l0:=[("rows", .ref (H.length + 2))]) (H:=VL H (atV 0) seed (ZaJ seed 0)) (fun _=>[("rows", .ref (H.length + 2))]) (fun i=>VL H (atV i) seed (ZaJ seed i)) rfl (by kernel_rfl) (by k_extra "lkN") (by rw [ZE]; lia) (fun i=>⟨_,by have:=Zh7 (X:=[]) (H:=H) (at_:=atV i) (seed:=seed) (rows:=ZaJ seed i); rwa [List.append_nil] at this⟩) (by repeat' k_extra "w") (by decide) (by k_extra "lsub") rfl (fun i=>by rw [ZE,ZE]) ?_ (by rw [ZE]; exact ZfT lH (.inr ⟨_,rfl⟩)) (by rw [ZE]; exact LimL.cons (limr (by simp)) LimL.nil)) ?_
      . intro i hi os ho
        rw [Zeh]
        exact ⟨_,.next,.inl rfl,Zgq G h0 h1 hi,by k_extra "lsub"⟩
      refine Za (Zbw (n:=8) (c:=H.length) (cm:=[("at", H.length),("seed", H.length + 1)]) (l0:=[("rows", .ref (H.length + 2))]) (H:=VL H (atW 0) seed (ZF seed 0)) (fun _=>[("rows", .ref (H.length + 2))]) (fun i=>VL H (atW i) seed (ZF seed i)) rfl (by kernel_rfl) (by k_extra "lkN") (by rw [ZE]; lia) (fun i=>⟨_,by have:=Zh7 (X:=[]) (H:=H) (at_:=atW i) (seed:=seed) (rows:=ZF seed i); rwa [List.append_nil] at this⟩) ?_ (by decide) (by k_extra "lsub") rfl (fun i=>by rw [ZE,ZE]) ?_ (by rw [ZE]; exact ZfT lH (.inr ⟨_,rfl⟩)) (by rw [ZE]; exact LimL.cons (limr (by simp)) LimL.nil)) ?_
      . have e:ZF seed 0 = ZaJ seed 8:=by simp [ZF]
        rw [e]
        repeat' k_extra "w"
      . intro i hi os ho
        rw [Zeh]
        exact ⟨_,.next,.inl rfl,Zgp G hi lH,by k_extra "lsub"⟩
      exact Zy (Z1 (by k_extra "w")) (by intro e; cases e)) (.ret _) List.take_length (by rw [ZE]; lia)
end
theorem walk_C24_z:True:=by
  k_with "d24" => skip
  trivial
end
section
theorem walk_C25_0:True:=by
  k_with "call" => (fail_if_success k_extra "d25"); first | refine' Ze6 (by assumption) (by assumption) (by assumption) (by assumption)
  trivial
section
variable {C:Cx} {k:Nat} (G:KF C.K) (D:KD C.K) (GO:KO C.K) {H:List AObj} {b:SId} {S:MS}
include G D GO
theorem ZlI {n:Nat} {nm:Str} {more bits:Int} (A:StA C.K H b S) (O:Good S) (ho:n < 16) (ha:(Z3 S n more).fmod 16 ≠ 0):Zb1 C (k + 6) (.ref (ga C.K "need_aligned")) [.ref b.s,(Op.m n nm more bits).pv C.K] H:=by
  have g1:=A.hs; have g2:=A.hsd
  refine fnM (names:=["state", "operand"]) (loc:=[("operand", (Op.m n nm more bits).pv C.K),("state", .ref b.s)]) (σ':=⟨[("operand", (Op.m n nm more bits).pv C.K),("state", .ref b.s)],[],H,none,[]⟩) G.f_need_aligned (by kernel_rfl) (fun vs h=>by refine e2a0 (len2 h) fun v0 v1 hqa=>?_; subst hqa; exact fun _ _ _ _ _ _=>by kernel_rfl) (by kernel_rfl) ?_ rfl
  unfold Op.pv
  show ExM _ _ _ _ (_ :: _) _
  refine ZmB (σ₁:=⟨[("operand", (Op.m n nm more bits).pv C.K),("state", .ref b.s)],[],H,none,[]⟩) (c:=(("mem" : Str) == "mem") && (((Z3 S n more).fmod 16 != 0) && true)) ?_ ?_ (Zip G D GO (by kernel_rfl))
  . unfold Op.pv
    repeat' k_extra "w"
    all_goals decide
  . have e:(("mem" : Str) == "mem") = true:=by kernel_rfl
    rw [e]; simpa using ha
end
theorem walk_C25_1:True:=by
  k_with "call" => (fail_if_success k_extra "d25"); first | with_reducible exact ZhS | with_reducible exact ZhR | with_reducible exact Zee | refine' ZhV (by assumption) (by assumption) (by assumption) (by assumption) ?_ | exact ZhX | refine' ZjD (by assumption) | refine' ZnK (by assumption) (by assumption) (by assumption) | refine' Zcu (by assumption) (by assumption) (by assumption) (by assumption)
  k_with "cmp" => (fail_if_success k_extra "d25"); first | exact ZaI (.fz _) | exact Zao (.fz _)
  k_with "sb" => (fail_if_success k_extra "d25"); first | exact Zl7 | exact Zl6
  trivial
noncomputable def Unal (S:MS):Op -> Prop
  | .m n _ more _=>(Z3 S n more).fmod 16 ≠ 0
  | _=>False
section
variable {C:Cx} {k:Nat} (G:KF C.K) (D:KD C.K) (GO:KO C.K) {H:List AObj} {b:SId} {S:MS}
include G D GO
theorem Zdy {o:Op} (A:StA C.K H b S) (O:Good S) (ho:o.ok) (ha:Unal S o):Zb1 C (k + 6) (.ref (ga C.K "need_aligned")) [.ref b.s,o.pv C.K] H:=by
  cases o with
  | x _ _=>cases ha
  | g _ _ _=>cases ha
  | m n nm more bits=>exact ZlI G D GO A O ho ha
theorem Zjr {name:Str} {one other:Op} (A:StA C.K H b S) (O:Good S) (ho:one.ok) (ho':other.ok) (hn:(ALIGNED.any (· == name)) = true) (ha:Unal S one ∨ (one.aligned S ∧ Unal S other)):Zb1 C (k + 7) (.ref (ga C.K "whole_move")) [.ref b.s,.str name,one.pv C.K,other.pv C.K] H:=by
  have g1:=A.hs; have g2:=A.hsd
  refine fnX (names:=["state", "name", "one", "other"]) (loc:=[("other", other.pv C.K),("one", one.pv C.K),("name", .str name),("state", .ref b.s)]) (σ':=⟨[("other", other.pv C.K),("one", one.pv C.K),("name", .str name),("state", .ref b.s)],[],H,none,[]⟩) G.f_whole_move (by kernel_rfl) (fun vs h=>by refine e4a0 (len4 h) fun v0 v1 v2 v3 hqa=>?_; subst hqa; exact fun _ _ _ _ _ _=>by kernel_rfl) (by kernel_rfl) ?_ rfl
  show ExX _ _ _ _ (_ :: _) _
  refine ZaB (ZfY (σ₁:=⟨[("other", other.pv C.K),("one", one.pv C.K),("name", .str name),("state", .ref b.s)],[],H,none,[]⟩) (by repeat' k_extra "w") hn ?_)
  rcases ha with ha | ⟨ha1,ha2⟩
  . exact ZaB (Zbx (Zba G (by kernel_rfl) (by kernel_rfl) (by kernel_rfl) rfl (by repeat' k_extra "w") (Zdy G D GO A O ho ha)))
  . refine ZT (σ₁:=⟨[("other", other.pv C.K),("one", one.pv C.K),("name", .str name),("state", .ref b.s)],[],H,none,[]⟩) ?_ (ZaB (Zbx (Zba G (by kernel_rfl) (by kernel_rfl) (by kernel_rfl) rfl (by repeat' k_extra "w") (Zdy G D GO A O ho' ha2))))
    repeat' k_extra "w"
    exact ha1
theorem Zov {name:Str} {one other:Op} (A:StA C.K H b S) (O:Good S) (ho:one.ok) (ho':other.ok) (hw:(WHOLE.any (· == name)) = true) (hn:(ALIGNED.any (· == name)) = true) (ha:Unal S one ∨ (one.aligned S ∧ Unal S other)):Zb1 C (k + 8) (.ref (ga C.K "vector_move")) [.ref b.s,.str name,one.pv C.K,other.pv C.K] H:=by
  refine fnX (names:=["state", "name", "one", "other"]) (loc:=[("other", other.pv C.K),("one", one.pv C.K),("name", .str name),("state", .ref b.s)]) (σ':=⟨[("other", other.pv C.K),("one", one.pv C.K),("name", .str name),("state", .ref b.s)],[],H,none,[]⟩) G.f_vector_move (by kernel_rfl) (fun vs h=>by refine e4a0 (len4 h) fun v0 v1 v2 v3 hqa=>?_; subst hqa; exact fun _ _ _ _ _ _=>by kernel_rfl) (by kernel_rfl) ?_ rfl
  show ExX _ _ _ _ (_ :: _) _
  refine ZaB (ZfY (σ₁:=⟨[("other", other.pv C.K),("one", one.pv C.K),("name", .str name),("state", .ref b.s)],[],H,none,[]⟩) (by repeat' k_extra "w") hw ?_)
  exact ZaB (Zbx (Zba G (by kernel_rfl) (by kernel_rfl) (by kernel_rfl) rfl (by repeat' k_extra "w") (Zjr G D GO A O ho ho' hn ha)))
theorem ZnG {name:Str} {one other:Op} (A:StA C.K H b S) (O:Good S) (ho:one.ok) (ho':other.ok) (hx:one.isX = true ∨ other.isX = true) (hw:(WHOLE.any (· == name)) = true) (hn:(ALIGNED.any (· == name)) = true) (ha:Unal S one ∨ (one.aligned S ∧ Unal S other)):Zb1 C (k + 9) (.ref (ga C.K "vector_deed")) [.ref b.s,ZP C.K name (one.pv C.K) (other.pv C.K)] H:=by
  refine fnX (names:=["state", "instruction"]) (loc:=[("instruction", ZP C.K name (one.pv C.K) (other.pv C.K)),("state", .ref b.s)]) (σ':=⟨[("instruction", ZP C.K name (one.pv C.K) (other.pv C.K)),("state", .ref b.s),("name", .str name),("one", one.pv C.K),("other", other.pv C.K)],[],H,none,[]⟩) G.f_vector_deed (by kernel_rfl) (fun vs h=>by refine e2a0 (len2 h) fun v0 v1 hqa=>?_; subst hqa; exact fun _ _ _ _ _ _=>by kernel_rfl) (by kernel_rfl) ?_ rfl
  show ExX _ _ _ _ (_ :: _ :: _ :: _ :: _ :: _ :: _) _
  refine ZT (σ₁:=⟨[("instruction", ZP C.K name (one.pv C.K) (other.pv C.K)),("state", .ref b.s)],[],H,none,[]⟩) (Za2 (Ts.cast (b:=((2:Int) != 2)) (by repeat' k_extra "w") rfl) Ze) ?_
  refine' ZT (Zj (by repeat' k_extra "w") (by k_extra "stl") (by rfl) (by kernel_rfl)) ?_
  refine' ZT (Zj (by repeat' k_extra "w") (by k_extra "stl") (by rfl) (by kernel_rfl)) ?_
  refine' ZT (Zj (by repeat' k_extra "w") (by k_extra "stl") (by rfl) (by kernel_rfl)) ?_
  refine' ZT (Za2 (Ts.cast (by repeat' k_extra "w") (by rcases hx with h | h <;> simp [h])) Ze) ?_
  exact ZaB (Zio (Zek (Zba G (by kernel_rfl) (by kernel_rfl) (by kernel_rfl) rfl (by repeat' k_extra "w") (Zov G D GO A O ho ho' hw hn ha))))
theorem ZnH {name:Str} {one other:Op} {size:Int} (A:StA C.K H b S) (O:Good S) (ho:one.ok) (ho':other.ok) (hx:one.isX = true) (hw:(WHOLE.any (· == name)) = false) (hp:Zaf name = 0) (h1:1 <= name.length) (h2:name.length <= 1000) (h3:Zag name <= 1000) (hl:Z2 name = size) (hb:((size == 0) && (!(BITS.any (· == name)) && true)) = false) (ha:Unal S other) :
    Zb1 C (k + 9) (.ref (ga C.K "vector_deed")) [.ref b.s,ZP C.K name (one.pv C.K) (other.pv C.K)] H:=by
  refine fnX (names:=["state", "instruction"]) (loc:=[("instruction", ZP C.K name (one.pv C.K) (other.pv C.K)),("state", .ref b.s)]) (σ':=⟨[("instruction", ZP C.K name (one.pv C.K) (other.pv C.K)),("state", .ref b.s),("name", .str name),("one", one.pv C.K),("other", other.pv C.K),("size", .int size)],[],H,none,[]⟩) G.f_vector_deed (by kernel_rfl) (fun vs h=>by refine e2a0 (len2 h) fun v0 v1 hqa=>?_; subst hqa; exact fun _ _ _ _ _ _=>by kernel_rfl) (by kernel_rfl) ?_ rfl
  show ExX _ _ _ _ (_ :: _ :: _ :: _ :: _ :: _ :: _) _
  refine ZT (σ₁:=⟨[("instruction", ZP C.K name (one.pv C.K) (other.pv C.K)),("state", .ref b.s)],[],H,none,[]⟩) (Za2 (Ts.cast (b:=((2:Int) != 2)) (by repeat' k_extra "w") rfl) Ze) ?_
  refine' ZT (Zj (by repeat' k_extra "w") (by k_extra "stl") (by rfl) (by kernel_rfl)) ?_
  refine' ZT (Zj (by repeat' k_extra "w") (by k_extra "stl") (by rfl) (by kernel_rfl)) ?_
  refine' ZT (Zj (by repeat' k_extra "w") (by k_extra "stl") (by rfl) (by kernel_rfl)) ?_
  refine' ZT (Za2 (Ts.cast (by repeat' k_extra "w") (by simp [hx])) Ze) ?_
  refine' ZT (Za2 (Ts.cast (by repeat' k_extra "w") rfl) Ze) ?_
  refine' ZT (Zj (Ev.cast (by repeat' k_extra "w") (by rw [hl])) (by k_extra "stl") (by rfl) (by kernel_rfl)) ?_
  refine' ZT (Za2 (Ts.cast (by repeat' k_extra "w") hb) Ze) ?_
  exact ZaB (Zbx (Zba G (by kernel_rfl) (by kernel_rfl) (by kernel_rfl) rfl (by repeat' k_extra "w") (Zdy (k:=k + 2) G D GO A O ho' ha)))
end
theorem walk_C25_z:True:=by
  k_with "d25" => skip
  trivial
end
section
noncomputable abbrev ZB (la:Addr) (lcd:Value):Fi:=⟨LF.qual,LF.scope,la,lcd,none⟩
noncomputable def Zd:List (Str × Nat):=[("held", 0),("at", 1),("seed", 2)]
theorem Zif {C:Cx} {k:Nat} {fi:Fi} {σ:St} (G:KF C.K) {c:Str} {es:List (Str × PV)} {n:Str} (hv:lk n es = none) (hx:cNames.contains (c,nsOf c) = true) (hm:mNames.contains (c,n) = true):MeJ C k fi σ (.obj (ga C.K c) es) n (.ref (ma C.K c n)) [.obj (ga C.K c) es]:=
  Zn5 hv (ok_c G.ok hx).2.1 (ok_m G.ok hm) (ZfF G hm)
noncomputable abbrev LL (cells:List Int):List (Str × PV):=[("cells", .lst (cells.map .int)),("state", .ref 8),("rows", .ref 16),("whole_ones", .ref 17)]
theorem walk_C26_0:True:=by
  k_with "hget1" => first | with_reducible assumption | with_reducible exact Zmr | with_reducible exact Zn8 | with_reducible exact Zmo | with_reducible exact ZcB | with_reducible exact ZdH | with_reducible exact Zii | with_reducible exact ZoS | with_reducible exact ZoU | with_reducible exact LG_m | with_reducible exact ZoV
  k_with "hget" => k_extra "hget1"
  k_with "bin" => (fail_if_success k_extra "d26"); first | exact ZQ (by decide)
  k_with "sb" => (fail_if_success k_extra "d26"); first | exact ZgA (.led (by k_extra "hget1")) (by assumption) (by assumption) | exact ZdF (.led (by k_extra "hget1")) (by assumption) (by lia)
  k_with "call" => (fail_if_success k_extra "d26"); first | refine' ZlL (by assumption) (by assumption) | refine' ZjE (by assumption) (by assumption) (.inl rfl) | refine' ZdA (by assumption) ?_ ?_ | refine' Zai (by assumption)
  trivial
section
variable {C:Cx} {k:Nat} (G:KF C.K) {la:Addr} {lcd:Value}
include G
theorem Zmp {l:LS} {X:List AObj} {i:Nat} {w:Int} (O:Good l.S) (hi:i < 16) {nm:Str}:CallJ C (k + 3) (.ref (ma C.K "State" "put")) [.ref 8,regO C.K nm "xmm" (i:Int) 128,.int w] (LG C.K l ++ X) .none (LG C.K { l with S:=⟨l.S.regs,l.S.xmm.set i (w % 2 ^ (128:Int).toNat),l.S.mem⟩ } ++ X):=
  ZhT G Zer O hi (by decide) (by decide)
theorem Zmq {l:LS} {X:List AObj} {i:Nat} {w:Int} (O:Good l.S) (hi:i < 16) {nm:Str}:CallJ C (k + 3) (.ref (ma C.K "State" "put")) [.ref 8,regO C.K nm "gpr" (i:Int) 64,.int w] (LG C.K l ++ X) .none (LG C.K { l with S:=⟨l.S.regs.set i (w % 2 ^ (64:Int).toNat),l.S.xmm,l.S.mem⟩ } ++ X):=
  Zky G Zer O hi (by decide) (by decide)
theorem Zhv {l:LS} {X:List AObj} {i:Nat} {cells:List Int} (O:Good l.S) (hi:i < 16) (hr:l.rows.length = 16) (ha:l.at_ = some (.int (i:Int))) (hoc:∀ x ∈ l.rows.getD i [],0 <= x /\ x < 256) (hlen:(l.rows.getD i []).length <= 100) :
    Ex1 C (k + 10) (ZB la lcd) ⟨LL cells,Zd,LG C.K l ++ X,none,[]⟩ ((Zh (LB 10)).getD 0 (LB 0)) .next ⟨LL cells,Zd,LG C.K { l with S:=⟨l.S.regs,l.S.xmm.set i (Zb (l.rows.getD i []) % 2 ^ (128:Int).toNat),l.S.mem⟩ } ++ X,none,[]⟩:=by
  have g1:(LG C.K l ++ X)[1]? = some (.cell (some (.int (i:Int)))):=by rw [<- ha]; rfl
  have hir:i < l.rows.length:=by lia
  have hir2:l.rows.length <= 100000:=by lia
  unfold Zd
  show Ex1 _ _ _ _ (.Expr _ _) _ _
  refine' Zad (Zae (by k_extra "w") (by k_extra "me") (by k_extra "able") (by
      repeat' k_extra "w"
      . exact hoc
      . exact hlen) (by exact Zmp G O hi))
theorem Zhu {l:LS} {X:List AObj} {i:Nat} {cells:List Int} (O:Good l.S) (hi:i < 16) (hw:l.whole.length = 16) (ha:l.at_ = some (.int (i:Int))) :
    Ex1 C (k + 10) (ZB la lcd) ⟨LL cells,Zd,LG C.K l ++ X,none,[]⟩ ((Zh (LB 10)).getD 1 (LB 0)) .next ⟨LL cells,Zd,LG C.K { l with S:=⟨l.S.regs.set i (l.whole.getD i 0 % 2 ^ (64:Int).toNat),l.S.xmm,l.S.mem⟩ } ++ X,none,[]⟩:=by
  have g1:(LG C.K l ++ X)[1]? = some (.cell (some (.int (i:Int)))):=by rw [<- ha]; rfl
  have hiw:i < l.whole.length:=by lia
  unfold Zd
  show Ex1 _ _ _ _ (.Expr _ _) _ _
  refine' Zad (Zae (by k_extra "w") (by k_extra "me") (by k_extra "able") (by repeat' k_extra "w") (by exact Zmq G O hi))
theorem Zje {l:LS} {X:List AObj} {i:Nat} {cells:List Int} (O:Good l.S) (hi:i < 16) (hr:l.rows.length = 16) (hw:l.whole.length = 16) (ha:l.at_ = some (.int (i:Int))) (hoc:∀ x ∈ l.rows.getD i [],0 <= x /\ x < 256) (hlen:(l.rows.getD i []).length <= 100) :
    Ex C (k + 10) (ZB la lcd) ⟨LL cells,Zd,LG C.K l ++ X,none,[]⟩ (Zh (LB 10)) .next ⟨LL cells,Zd,LG C.K { l with S:=⟨l.S.regs.set i (l.whole.getD i 0 % 2 ^ (64:Int).toNat),l.S.xmm.set i (Zb (l.rows.getD i []) % 2 ^ (128:Int).toNat),l.S.mem⟩ } ++ X,none,[]⟩:=by
  show Ex _ _ _ _ [(Zh (LB 10)).getD 0 (LB 0),(Zh (LB 10)).getD 1 (LB 0)] _ _
  exact Za (Zhv G O hi hr ha hoc hlen) (Za (Zhu (l:={ l with S:=⟨l.S.regs,l.S.xmm.set i (Zb (l.rows.getD i []) % 2 ^ (128:Int).toNat),l.S.mem⟩ }) G ⟨O.lr,by simpa using O.lx,O.oc,O.lm⟩ hi hw ha) Ze)
end
theorem walk_C26_z:True:=by
  k_with "d26" => skip
  trivial
end
section
theorem Zlj (k v:Int):∀ mem:List (Int × Int),lkI k (dI (mput k v mem)) = some (.int v):=fun mem=>by
  rw [<- Zkm]
  unfold putI
  split
  . rename_i h
    have:∀ es:List (Int × PV),es.any (fun e=>decide (e.1 = k)) = true -> lkI k (es.map fun e=>if e.1 = k then (e.1,PV.int v) else e) = some (.int v):=fun es=>by
      induction es with
      | nil=>intro h; exact ft h
      | cons p r ih=>
        intro h
        simp only [List.map_cons]
        by_cases e:p.1 = k
        . rw [if_pos e]; exact (Zgf ..).trans (if_pos e)
        . rw [if_neg e]; obtain ⟨a,b⟩:=p; rw [Zgf,if_neg e]
          refine ih ?_
          simp only [List.any_cons,Bool.or_eq_true,decide_eq_true_eq] at h
          rcases h with h | h
          . exact absurd h e
          . exact h
    exact this _ h
  . rename_i h
    have:∀ es:List (Int × PV),¬ es.any (fun e=>decide (e.1 = k)) = true -> lkI k (es ++ [(k,PV.int v)]) = some (.int v):=fun es=>by
      induction es with
      | nil=>intro _; exact if_pos rfl
      | cons p r ih=>
        intro h
        obtain ⟨a,b⟩:=p
        simp only [List.any_cons,Bool.or_eq_true,decide_eq_true_eq,not_or] at h
        rw [List.cons_append,Zgf,if_neg h.1]
        exact ih h.2
    exact this _ h
noncomputable def ZaG (seed:Int) (spot:Nat):Int:=(seed * (spot:Int) * (spot:Int) + 7 * (spot:Int) + 200) % 256
noncomputable abbrev LLs (cells:List Int) (i:Nat):List (Str × PV):=[("cells", .lst (cells.map .int)),("state", .ref 8),("rows", .ref 16),("whole_ones", .ref 17),("spot", .int (i:Int))]
theorem walk_C27_0:True:=by
  k_with "bin" => (fail_if_success k_extra "d27"); first | exact ZQ (by decide)
  k_with "si" => (fail_if_success k_extra "d27"); exact ZjK (by k_extra "hget1") (by lia)
  k_with "sb" => (fail_if_success k_extra "d27"); exact Zfd (.inl (by k_extra "hget1")) (by assumption)
  trivial
section
variable {C:Cx} {k:Nat} (G:KF C.K) {la:Addr} {lcd:Value}
include G
theorem Zht {l:LS} {X:List AObj} {i:Nat} {cells:List Int} (hi:i < 80) (h0:0 <= l.seed) (h1:l.seed < 99991) (hz:l.held.length <= 1000) :
    Ex1 C (k + 10) (ZB la lcd) ⟨LLs cells i,Zd,LG C.K l ++ X,none,[]⟩ ((Zh (LB 11)).getD 0 (LB 0)) .next ⟨LLs cells i,Zd,LG C.K { l with held:=mput (8176 + (i:Int)) (ZaG l.seed i) l.held } ++ X,none,[]⟩:=by
  unfold Zd ZaG
  have b1:Builtin.Int.intBits l.seed <= 17:=intBits_le_iff.mpr (by lia)
  have b2:Builtin.Int.intBits (i:Int) <= 7:=intBits_le_iff.mpr (by lia)
  show Ex1 _ _ _ _ (.Assign _ _ _) _ _
  rw [<- ZgC (l:=l) (r:=mput (8176 + (i:Int)) ((l.seed * (i:Int) * (i:Int) + 7 * (i:Int) + 200) % 256) l.held)]
  repeat' k_extra "w"
  . exact IntMulOk.of_le b1 b2 (by decide)
  . exact IntMulOk.of_le (intBits_mul_le b1 b2) b2 (by decide)
  . exact IntMulOk.of_le (m:=64) (n:=64) (intBits_le_iff.mpr (by decide)) (intBits_le_iff.mpr (by lia)) (by decide)
theorem Zhs {l:LS} {X:List AObj} {i:Nat} {cells:List Int} {v:Int} (hv:lkI (8176 + (i:Int)) (dI l.held) = some (.int v)) (hz:l.S.mem.length <= 800) :
    Ex1 C (k + 10) (ZB la lcd) ⟨LLs cells i,Zd,LG C.K l ++ X,none,[]⟩ ((Zh (LB 11)).getD 1 (LB 0)) .next ⟨LLs cells i,Zd,LG C.K { l with S:=⟨l.S.regs,l.S.xmm,Zaw (8176 + (i:Int)) v l.S.mem 1⟩ } ++ X,none,[]⟩:=by
  unfold Zd
  show Ex1 _ _ _ _ (.Expr _ _) _ _
  refine' Zad (ZaN (by repeat' k_extra "w") (by k_extra "me") (by k_extra "able") (by repeat' k_extra "w") (by exact ZfO (k:=k + 5) (n:=1) G ZkR (by decide) (by lia)))
theorem Zhr {l:LS} {X:List AObj} {i:Nat} {cells:List Int} (hi:i < 80) (h0:0 <= l.seed) (h1:l.seed < 99991) (hz:l.held.length <= 1000) (hz':l.S.mem.length <= 800) :
    Ex C (k + 10) (ZB la lcd) ⟨LLs cells i,Zd,LG C.K l ++ X,none,[]⟩ (Zh (LB 11)) .next ⟨LLs cells i,Zd,LG C.K { l with S:=⟨l.S.regs,l.S.xmm,Zaw (8176 + (i:Int)) (ZaG l.seed i) l.S.mem 1⟩,held:=mput (8176 + (i:Int)) (ZaG l.seed i) l.held } ++ X,none,[]⟩:=by
  show Ex _ _ _ _ [(Zh (LB 11)).getD 0 (LB 0),(Zh (LB 11)).getD 1 (LB 0)] _ _
  exact Za (Zht G hi h0 h1 hz) (Za (Zhs (l:={ l with held:=mput (8176 + (i:Int)) (ZaG l.seed i) l.held }) G (Zlj _ _ _) hz') Ze)
end
theorem walk_C27_z:True:=by
  k_with "d27" => skip
  trivial
end
section
noncomputable def NAMES:List Str:=["movaps", "movups", "movdqa", "movdqu", "movss", "movsd", "movd", "movq", "pxor", "por", "pand", "pandn", "paddb", "paddw", "paddd", "paddq", "psubb", "psubw", "psubd", "psubq", "pcmpeqb", "pcmpeqw", "pcmpeqd", "xorps", "andps", "orps"]
noncomputable def LALIGNED:List Str:=["movaps", "movdqa", "pxor", "por", "pand", "pandn", "paddb", "paddw", "paddd", "paddq", "psubb", "psubw", "psubd", "psubq", "pcmpeqb", "pcmpeqw", "pcmpeqd", "xorps", "andps", "orps"]
noncomputable def MORE:List Int:=[0,16,-16,48,5,1000,-7]
noncomputable def Zc (c:Int):Str:=NAMES.getD (c % 26).toNat ""
noncomputable def n1 (c:Int):Int:=c / 26
noncomputable def dWay (c:Int):Str:=(Zg (Zc c)).getD (n1 c % 5 % (Zg (Zc c)).length).toNat ""
noncomputable def n2 (c:Int):Int:=n1 c / 5
noncomputable def dOne (c:Int):Nat:=(n2 c % 16).toNat
noncomputable def Zm (c:Int):Nat:=(n2 c / 16 % 16).toNat
noncomputable def n3 (c:Int):Int:=n2 c / 256
noncomputable def Zab (c:Int):Int:=MORE.getD (n3 c % 7).toNat 0
noncomputable def ZS (c:Int):Nat:=([3,13]:List Nat).getD (n3 c / 7 % 2).toNat 0
theorem pylS {x y:Int} (h0:0 < y) (h1:y < 2 ^ 30):Builtin.divisionGoesByPylong x y = false:=by
  unfold Builtin.divisionGoesByPylong
  have:(if (y == 0) = true then 0 else y.natAbs.log2 / 30 + 1) <= 300:=by
    split
    . lia
    . have:y.natAbs.log2 < 30:=(Nat.log2_lt (by lia)).mpr (by lia)
      lia
  simp only
  rw [decide_eq_false (by lia)]; rfl
theorem Zdb (name:Str):2 <= (Zg name).length /\ (Zg name).length <= 5:=by
  unfold Zg
  split
  . decide
  . split
    . decide
    . split <;> decide
theorem Zda (name:Str):∀ w ∈ Zg name,w.length = 2:=by
  unfold Zg
  split
  . decide +kernel
  . split
    . decide +kernel
    . split <;> decide +kernel
theorem ZaX:∀ w ∈ NAMES,1 <= w.length /\ w.length <= 10:=by decide +kernel
theorem Zn (c:Int):Zc c ∈ NAMES:=by
  unfold Zc
  have:(c % 26).toNat < NAMES.length:=by show _ < 26; lia
  rw [List.getD_eq_getElem?_getD,List.getElem?_eq_getElem this]
  exact List.getElem_mem _
theorem Zx (c:Int):dWay c ∈ Zg (Zc c):=by
  unfold dWay
  have h:=Zdb (Zc c)
  have:(n1 c % 5 % (Zg (Zc c)).length).toNat < (Zg (Zc c)).length:=by
    have h1:=Int.emod_nonneg (n1 c % 5) (b:=((Zg (Zc c)).length:Int)) (by lia)
    have h2:=Int.emod_lt_of_pos (n1 c % 5) (b:=((Zg (Zc c)).length:Int)) (by lia)
    lia
  rw [List.getD_eq_getElem?_getD,List.getElem?_eq_getElem this]
  exact List.getElem_mem _
section
variable {C:Cx} {k:Nat} {fi:Fi} {σ:St} {H:List AObj}
theorem Zkv:CallJ C k (.builtin "str.split") ([.str (sOf (Str.ofString "_law_names"))] ++ [.str (Str.ofString " ")]) H (.lst (NAMES.map .str)) H:=Zav (by kernel_rfl) (by decide +kernel) (by kernel_rfl)
theorem Zkw:CallJ C k (.builtin "str.split") ([.str (sOf (Str.ofString "_law_aligned"))] ++ [.str (Str.ofString " ")]) H (.lst (LALIGNED.map .str)) H:=Zav (by kernel_rfl) (by decide +kernel) (by kernel_rfl)
theorem Zl8 {value sl:Expr} {c:Int} (hs:ZJ sl:=by intro _ _; rfl):SbJ C k fi σ value sl (.lst (NAMES.map .str)) (.int (c % 26)) (.str (Zc c)) σ:=by
  have e:c % 26 = (((c % 26).toNat:Nat):Int):=by lia
  rw [e]
  unfold Zc
  have:(c % 26).toNat < NAMES.length:=by show _ < 26; lia
  have:=Zl9 (C:=C) (k:=k) (fi:=fi) (σ:=σ) (value:=value) (sl:=sl) (p:=.lst (NAMES.map .str)) (xs:=NAMES) (i:=(c % 26).toNat) (.fz _) this (by decide) hs
  simpa using this
theorem ZkD {value sl:Expr} {c:Int} (hs:ZJ sl:=by intro _ _; rfl):SbJ C k fi σ value sl (.lst ((Zg (Zc c)).map .str)) (.int (n1 c % 5 % ((Zg (Zc c)).length:Int))) (.str (dWay c)) σ:=by
  have h:=Zdb (Zc c)
  have h1:=Int.emod_nonneg (n1 c % 5) (b:=((Zg (Zc c)).length:Int)) (by lia)
  have h2:=Int.emod_lt_of_pos (n1 c % 5) (b:=((Zg (Zc c)).length:Int)) (by lia)
  have e:n1 c % 5 % ((Zg (Zc c)).length:Int) = (((n1 c % 5 % ((Zg (Zc c)).length:Int)).toNat:Nat):Int):=by lia
  rw [e]
  exact Zl9 (.fz _) (by lia) (by lia) hs
theorem Zh8 {value sl:Expr} {c:Int} (hs:ZJ sl:=by intro _ _; rfl):SbJ C k fi σ value sl (.tup [.int 0,.int 16,.int (-16),.int 48,.int 5,.int 1000,.int (-7)]) (.int (n3 c % 7)) (.int (Zab c)) σ:=by
  unfold Zab
  have h5:(n3 c % 7).toNat < 7:=by lia
  have e:n3 c % 7 = (((n3 c % 7).toNat:Nat):Int):=by lia
  rw [e]
  generalize (n3 c % 7).toNat = j at h5
  have:j = 0 ∨ j = 1 ∨ j = 2 ∨ j = 3 ∨ j = 4 ∨ j = 5 ∨ j = 6:=by lia
  rcases this with rfl | rfl | rfl | rfl | rfl | rfl | rfl
  . exact Zam (j:=0) (by decide) (by decide) rfl rfl hs
  . exact Zam (j:=1) (by decide) (by decide) rfl rfl hs
  . exact Zam (j:=2) (by decide) (by decide) rfl rfl hs
  . exact Zam (j:=3) (by decide) (by decide) rfl rfl hs
  . exact Zam (j:=4) (by decide) (by decide) rfl rfl hs
  . exact Zam (j:=5) (by decide) (by decide) rfl rfl hs
  . exact Zam (j:=6) (by decide) (by decide) rfl rfl hs
theorem Zh9 {value sl:Expr} {c:Int} (hs:ZJ sl:=by intro _ _; rfl):SbJ C k fi σ value sl (.tup [.int 3,.int 13]) (.int (n3 c / 7 % 2)) (.int (ZS c:Int)) σ:=by
  unfold ZS
  have h5:(n3 c / 7 % 2).toNat < 2:=by lia
  have e:n3 c / 7 % 2 = (((n3 c / 7 % 2).toNat:Nat):Int):=by lia
  rw [e]
  generalize (n3 c / 7 % 2).toNat = j at h5
  have:j = 0 ∨ j = 1:=by lia
  rcases this with rfl | rfl
  . exact Zam (j:=0) (by decide) (by decide) rfl rfl hs
  . exact Zam (j:=1) (by decide) (by decide) rfl rfl hs
end
theorem Zb5 (c:Int):ZS c = 3 ∨ ZS c = 13:=by
  unfold ZS
  have h5:(n3 c / 7 % 2).toNat < 2:=by lia
  generalize (n3 c / 7 % 2).toNat = j at h5
  have:j = 0 ∨ j = 1:=by lia
  rcases this with rfl | rfl <;> simp
noncomputable abbrev LM (cells:List Int) (r:List (Str × PV)):List (Str × PV):=("cells", .lst (cells.map .int)) :: ("state", .ref 8) :: ("rows", .ref 16) :: ("whole_ones", .ref 17) :: ("flags_told", .tup [.int 0,.int 0,.int 0,.int 0,.int 0,.int 0,.int 0]) :: r
theorem walk_C28_0:True:=by
  k_with "bin" => (fail_if_success k_extra "d28"); first | exact ZQ (by first | decide | assumption) | exact Zb9 (by decide) (pylS (by decide) (by decide))
  k_with "sb" => (fail_if_success k_extra "d28"); first | exact Zl8 | exact ZkD | exact Zh8 | exact Zh9
  k_with "call" => (fail_if_success k_extra "d28"); first | with_reducible exact Zkv | with_reducible exact Zkw | refine' ZnJ (by assumption) ?_ | refine' ZkB (by assumption) | exact ZdL (fun _ _ _ _=>.fz _) (by simp; lia)
  trivial
section
variable {C:Cx} {k:Nat} (G:KF C.K) {la:Addr} {lcd:Value}
include G
theorem Zkt {l:LS} {X:List AObj} {c:Int} {cells:List Int} {rest:List Stmt} {o:Out} {σ':St}
    (hr:Ex C (k + 10) (ZB la lcd) ⟨LM cells [("cell", .int c),("name", .str (Zc c)),("number", .int (n3 c)),("ways", .lst ((Zg (Zc c)).map .str)),("way", .str (dWay c)),("other", .int (Zm c:Int)),("one", .int (dOne c:Int))],Zd,LG C.K l ++ X,none,[]⟩ rest o σ') :
    Ex C (k + 10) (ZB la lcd) ⟨LM cells [("cell", .int c)],Zd,LG C.K l ++ X,none,[]⟩ ((Zh (LB 13)).getD 0 (LB 0) :: (Zh (LB 13)).getD 1 (LB 0) :: (Zh (LB 13)).getD 2 (LB 0) :: (Zh (LB 13)).getD 3 (LB 0) :: (Zh (LB 13)).getD 4 (LB 0) :: (Zh (LB 13)).getD 5 (LB 0) :: (Zh (LB 13)).getD 6 (LB 0) :: rest) o σ':=by
  have hwl:=Zdb (Zc c)
  have hwp:(0:Int) < ((Zg (Zc c)).length:Int):=by lia
  have hnl:=ZaX _ (Zn c)
  have e1:((dOne c:Nat):Int) = n2 c % 16:=by unfold dOne; lia
  have e2:((Zm c:Nat):Int) = n2 c / 16 % 16:=by unfold Zm; lia
  unfold Zd at hr ⊢
  show Ex _ _ _ _ (.Assign _ _ _ :: .Assign _ _ _ :: .Assign _ _ _ :: .Assign _ _ _ :: .Assign _ _ _ :: .Assign _ _ _ :: .Assign _ _ _ :: rest) _ _
  have hwp2:(0:Int) < (((Zg (Zc c)).map PV.str).length:Int):=by simpa using hwp
  refine Za (σ₁:=⟨LM cells [("cell", .int c),("name", .str (Zc c))],[("held", 0),("at", 1),("seed", 2)],LG C.K l ++ X,none,[]⟩) (Zj (v:=.str (Zc c)) (l:=LM cells [("cell", .int c)]) (by repeat' k_extra "w") (by k_extra "stl") rfl (by kernel_rfl)) ?_
  refine Za (σ₁:=⟨LM cells [("cell", .int c),("name", .str (Zc c)),("number", .int (n1 c))],[("held", 0),("at", 1),("seed", 2)],LG C.K l ++ X,none,[]⟩) (Zj (v:=.int (n1 c)) (l:=LM cells [("cell", .int c),("name", .str (Zc c))]) (by unfold n1; repeat' k_extra "w") (by k_extra "stl") rfl (by kernel_rfl)) ?_
  refine Za (σ₁:=⟨LM cells [("cell", .int c),("name", .str (Zc c)),("number", .int (n1 c)),("ways", .lst ((Zg (Zc c)).map .str))],[("held", 0),("at", 1),("seed", 2)],LG C.K l ++ X,none,[]⟩) (Zj (v:=.lst ((Zg (Zc c)).map .str)) (l:=LM cells [("cell", .int c),("name", .str (Zc c)),("number", .int (n1 c))]) (by
    repeat' k_extra "w"
    lia) (by k_extra "stl") rfl (by kernel_rfl)) ?_
  refine Za (σ₁:=⟨LM cells [("cell", .int c),("name", .str (Zc c)),("number", .int (n1 c)),("ways", .lst ((Zg (Zc c)).map .str)),("way", .str (dWay c))],[("held", 0),("at", 1),("seed", 2)],LG C.K l ++ X,none,[]⟩) (Zj (v:=.str (dWay c)) (l:=LM cells [("cell", .int c),("name", .str (Zc c)),("number", .int (n1 c)),("ways", .lst ((Zg (Zc c)).map .str))]) (Zaj (a:=.lst ((Zg (Zc c)).map .str)) (i:=.int (n1 c % 5 % ((Zg (Zc c)).length:Int))) (by k_extra "w") (Ev.cast (v:=.int (n1 c % 5 % (((Zg (Zc c)).map PV.str).length:Int))) (by repeat' k_extra "w") (by simp)) ZkD) (by k_extra "stl") rfl (by kernel_rfl)) ?_
  refine Za (σ₁:=⟨LM cells [("cell", .int c),("name", .str (Zc c)),("number", .int (n2 c)),("ways", .lst ((Zg (Zc c)).map .str)),("way", .str (dWay c))],[("held", 0),("at", 1),("seed", 2)],LG C.K l ++ X,none,[]⟩) (Zj (v:=.int (n2 c)) (l:=LM cells [("cell", .int c),("name", .str (Zc c)),("number", .int (n1 c)),("ways", .lst ((Zg (Zc c)).map .str)),("way", .str (dWay c))]) (by unfold n2; repeat' k_extra "w") (by k_extra "stl") rfl (by kernel_rfl)) ?_
  refine Za (σ₁:=⟨LM cells [("cell", .int c),("name", .str (Zc c)),("number", .int (n2 c)),("ways", .lst ((Zg (Zc c)).map .str)),("way", .str (dWay c)),("other", .int (Zm c:Int)),("one", .int (dOne c:Int))],[("held", 0),("at", 1),("seed", 2)],LG C.K l ++ X,none,[]⟩) (Zmw (p:=.int (dOne c:Int)) (q:=.int (Zm c:Int)) (σ₁:=⟨LM cells [("cell", .int c),("name", .str (Zc c)),("number", .int (n2 c)),("ways", .lst ((Zg (Zc c)).map .str)),("way", .str (dWay c))],[("held", 0),("at", 1),("seed", 2)],LG C.K l ++ X,none,[]⟩) (loc:=LM cells [("cell", .int c),("name", .str (Zc c)),("number", .int (n2 c)),("ways", .lst ((Zg (Zc c)).map .str)),("way", .str (dWay c)),("other", .int (Zm c:Int))]) (by rw [e1,e2]; repeat' k_extra "w") rfl (by kernel_rfl) (by kernel_rfl) rfl (by kernel_rfl) (by rfl) (by rfl) (by rfl) (by k_extra "stl") (by k_extra "stl")) ?_
  exact Za (Zj (v:=.int (n3 c)) (l:=LM cells [("cell", .int c),("name", .str (Zc c)),("number", .int (n2 c)),("ways", .lst ((Zg (Zc c)).map .str)),("way", .str (dWay c)),("other", .int (Zm c:Int)),("one", .int (dOne c:Int))]) (by unfold n3; repeat' k_extra "w") (by k_extra "stl") rfl (by kernel_rfl)) hr
end
theorem walk_C28_z:True:=by
  k_with "d28" => skip
  trivial
end
section
noncomputable def Zt (c:Int):Nat:=(Zi (Zc c) / 8).toNat
noncomputable def memO (c:Int):Op:=.m (ZS c) (ZeV (ZS c) 64) (Zab c) (Zi (Zc c))
noncomputable def opA (c:Int):Op:=ZV (Txt.item (dWay c) 0) (dOne c) (Zi (Zc c)) (memO c)
noncomputable def opB (c:Int):Op:=ZV (Txt.item (dWay c) 1) (Zm c) (Zi (Zc c)) (memO c)
noncomputable def atOf (l:LS) (c:Int):Int:=l.whole.getD (ZS c) 0 + Zab c
noncomputable def Zak (c:Int) (at_:Int):Bool:=Txt.contains (dWay c) "m" && (LALIGNED.any (· == Zc c) && (at_ % 16 != 0))
theorem Zb6:∀ nm ∈ NAMES,Zi nm = 32 ∨ Zi nm = 64 ∨ Zi nm = 128:=by decide +kernel
theorem ZlB:∀ nm ∈ NAMES,∀ w ∈ Zg nm,(Txt.item w 0 == "g") = true → Zi nm = 64 ∨ Zi nm = 32:=by decide +kernel
theorem Znz:∀ nm ∈ NAMES,∀ w ∈ Zg nm,(Txt.item w 1 == "g") = true → Zi nm = 64 ∨ Zi nm = 32:=by decide +kernel
theorem Za1 (c:Int):dOne c < 16:=by unfold dOne; lia
theorem Zbs (c:Int):Zm c < 16:=by unfold Zm; lia
noncomputable abbrev LR (K:Frag) (cells:List Int) (c:Int) (l:LS):List (Str × PV):=LM cells [("cell", .int c),("name", .str (Zc c)),("number", .int (n3 c)),("ways", .lst ((Zg (Zc c)).map .str)),("way", .str (dWay c)),("other", .int (Zm c:Int)),("one", .int (dOne c:Int)),("more", .int (Zab c)),("base", .int (ZS c:Int)),("bits", .int (Zi (Zc c))),("many", .int (Zt c:Int)),("mem", (memO c).pv K),("line", ZP K (Zc c) ((opA c).pv K) ((opB c).pv K)),("is_barred", .bool (Zak c (atOf l c)))]
theorem walk_C29_0:True:=by
  k_with "bin" => (fail_if_success k_extra "d29"); first | exact ZQ (by first | decide | assumption) | exact Zb9 (by decide) (pylS (by decide) (by decide))
  k_with "sb" => (fail_if_success k_extra "d29"); first | exact Zh8 | exact Zh9 | exact ZdF (.led (by k_extra "hget1")) (by assumption) (by lia)
  k_with "cmp" => (fail_if_success k_extra "d29"); first | exact ZaI (.fz _) | exact ZeC
  k_with "call" => (fail_if_success k_extra "d29"); first | with_reducible exact Zkv | with_reducible exact Zkw | refine' ZkB (by assumption) | refine' ZjE (by assumption) (by assumption) (.inl rfl) | refine' ZoH (by assumption) (by assumption) | refine' Zct (by assumption) (by assumption) (by assumption) | refine' Zh0 (by assumption) (by assumption)
  k_with "callname" => (fail_if_success k_extra "d29"); first
    | ((with_reducible show Ev _ _ _ _ (Expr.Call (Expr.Name (Str.ofString "Mem") _) _ _ _) _ _); refine' ZU (by assumption) (by kernel_rfl) (by kernel_rfl) (by kernel_rfl) ?_ ?_)
    | ((with_reducible show Ev _ _ _ _ (Expr.Call (Expr.Name (Str.ofString "Instruction") _) _ _ _) _ _); refine' ZU (by assumption) (by kernel_rfl) (by kernel_rfl) (by kernel_rfl) ?_ ?_)
  trivial
theorem Zc4 {C:Cx} {k:Nat} {fi:Fi} {σ:St} {value sl:Expr} {w:Str} {i:Int} (hw:w.length = 2) (h0:0 <= i) (h1:i < 2) (hs:ZJ sl:=by intro _ _; rfl):SbJ C k fi σ value sl (.str w) (.int i) (.str (Txt.item w i)) σ:=
  ZfV (by unfold fitsSsize; simp; lia) (by lia) (by lia) hs
section
variable {C:Cx} {k:Nat} (G:KF C.K) (D:KD C.K) {la:Addr} {lcd:Value}
include G D
set_option maxHeartbeats 8000000 in
theorem Zks {l:LS} {X:List AObj} {c:Int} {cells:List Int} {rest:List Stmt} {o:Out} {σ':St} (hw:l.whole.length = 16)
    (hr:Ex C (k + 10) (ZB la lcd) ⟨LR C.K cells c l,Zd,LG C.K { l with at_:=some (.int (atOf l c)) } ++ X,none,[]⟩ rest o σ') :
    Ex C (k + 10) (ZB la lcd) ⟨LM cells [("cell", .int c),("name", .str (Zc c)),("number", .int (n3 c)),("ways", .lst ((Zg (Zc c)).map .str)),("way", .str (dWay c)),("other", .int (Zm c:Int)),("one", .int (dOne c:Int))],Zd,LG C.K l ++ X,none,[]⟩ ((Zh (LB 13)).getD 7 (LB 0) :: (Zh (LB 13)).getD 8 (LB 0) :: (Zh (LB 13)).getD 9 (LB 0) :: (Zh (LB 13)).getD 10 (LB 0) :: (Zh (LB 13)).getD 11 (LB 0) :: (Zh (LB 13)).getD 12 (LB 0) :: (Zh (LB 13)).getD 13 (LB 0) :: (Zh (LB 13)).getD 14 (LB 0) :: rest) o σ':=by
  have hbl:ZS c < 16:=by rcases Zb5 c with e | e <;> lia
  have hbw:ZS c < l.whole.length:=by lia
  have h1l:=Za1 c
  have h2l:=Zbs c
  have hway:=Zda _ _ (Zx c)
  have hg0:=ZlB _ (Zn c) _ (Zx c)
  have hg1:=Znz _ (Zn c) _ (Zx c)
  have em:((Zt c:Nat):Int) = Zi (Zc c) / 8:=by
    unfold Zt
    exact (bt (Zb6 _ (Zn c))).2.2.1
  unfold Zd at hr ⊢
  show Ex _ _ _ _ (.Assign _ _ _ :: .Assign _ _ _ :: .Assign _ _ _ :: .Assign _ _ _ :: .Assign _ _ _ :: .Assign _ _ _ :: .Assign _ _ _ :: .Assign _ _ _ :: rest) _ _
  refine Za (σ₁:=⟨LM cells [("cell", .int c),("name", .str (Zc c)),("number", .int (n3 c)),("ways", .lst ((Zg (Zc c)).map .str)),("way", .str (dWay c)),("other", .int (Zm c:Int)),("one", .int (dOne c:Int)),("more", .int (Zab c))],[("held", 0),("at", 1),("seed", 2)],LG C.K l ++ X,none,[]⟩) (Zj (v:=.int (Zab c)) (l:=LM cells [("cell", .int c),("name", .str (Zc c)),("number", .int (n3 c)),("ways", .lst ((Zg (Zc c)).map .str)),("way", .str (dWay c)),("other", .int (Zm c:Int)),("one", .int (dOne c:Int))]) (by repeat' k_extra "w") (by k_extra "stl") rfl (by kernel_rfl)) ?_
  refine Za (σ₁:=⟨LM cells [("cell", .int c),("name", .str (Zc c)),("number", .int (n3 c)),("ways", .lst ((Zg (Zc c)).map .str)),("way", .str (dWay c)),("other", .int (Zm c:Int)),("one", .int (dOne c:Int)),("more", .int (Zab c)),("base", .int (ZS c:Int))],[("held", 0),("at", 1),("seed", 2)],LG C.K l ++ X,none,[]⟩) (Zj (v:=.int (ZS c:Int)) (l:=LM cells [("cell", .int c),("name", .str (Zc c)),("number", .int (n3 c)),("ways", .lst ((Zg (Zc c)).map .str)),("way", .str (dWay c)),("other", .int (Zm c:Int)),("one", .int (dOne c:Int)),("more", .int (Zab c))]) (by repeat' k_extra "w") (by k_extra "stl") rfl (by kernel_rfl)) ?_
  refine Za (σ₁:=⟨LM cells [("cell", .int c),("name", .str (Zc c)),("number", .int (n3 c)),("ways", .lst ((Zg (Zc c)).map .str)),("way", .str (dWay c)),("other", .int (Zm c:Int)),("one", .int (dOne c:Int)),("more", .int (Zab c)),("base", .int (ZS c:Int)),("bits", .int (Zi (Zc c)))],[("held", 0),("at", 1),("seed", 2)],LG C.K l ++ X,none,[]⟩) (Zj (v:=.int (Zi (Zc c))) (l:=LM cells [("cell", .int c),("name", .str (Zc c)),("number", .int (n3 c)),("ways", .lst ((Zg (Zc c)).map .str)),("way", .str (dWay c)),("other", .int (Zm c:Int)),("one", .int (dOne c:Int)),("more", .int (Zab c)),("base", .int (ZS c:Int))]) (by repeat' k_extra "w") (by k_extra "stl") rfl (by kernel_rfl)) ?_
  refine Za (σ₁:=⟨LM cells [("cell", .int c),("name", .str (Zc c)),("number", .int (n3 c)),("ways", .lst ((Zg (Zc c)).map .str)),("way", .str (dWay c)),("other", .int (Zm c:Int)),("one", .int (dOne c:Int)),("more", .int (Zab c)),("base", .int (ZS c:Int)),("bits", .int (Zi (Zc c))),("many", .int (Zt c:Int))],[("held", 0),("at", 1),("seed", 2)],LG C.K l ++ X,none,[]⟩) (Zj (v:=.int (Zt c:Int)) (l:=LM cells [("cell", .int c),("name", .str (Zc c)),("number", .int (n3 c)),("ways", .lst ((Zg (Zc c)).map .str)),("way", .str (dWay c)),("other", .int (Zm c:Int)),("one", .int (dOne c:Int)),("more", .int (Zab c)),("base", .int (ZS c:Int)),("bits", .int (Zi (Zc c)))]) (by rw [em]; repeat' k_extra "w") (by k_extra "stl") rfl (by kernel_rfl)) ?_
  refine Za (σ₁:=⟨LM cells [("cell", .int c),("name", .str (Zc c)),("number", .int (n3 c)),("ways", .lst ((Zg (Zc c)).map .str)),("way", .str (dWay c)),("other", .int (Zm c:Int)),("one", .int (dOne c:Int)),("more", .int (Zab c)),("base", .int (ZS c:Int)),("bits", .int (Zi (Zc c))),("many", .int (Zt c:Int)),("mem", (memO c).pv C.K)],[("held", 0),("at", 1),("seed", 2)],LG C.K l ++ X,none,[]⟩) (Zj (v:=(memO c).pv C.K) (l:=LM cells [("cell", .int c),("name", .str (Zc c)),("number", .int (n3 c)),("ways", .lst ((Zg (Zc c)).map .str)),("way", .str (dWay c)),("other", .int (Zm c:Int)),("one", .int (dOne c:Int)),("more", .int (Zab c)),("base", .int (ZS c:Int)),("bits", .int (Zi (Zc c))),("many", .int (Zt c:Int))]) (Ev.cast (v:=opM C.K (regO C.K (ZeV (ZS c) 64) "gpr" (ZS c:Int) 64) (Zab c) (Zi (Zc c))) (by repeat' k_extra "w") rfl) (by k_extra "stl") rfl (by kernel_rfl)) ?_
  refine Za (σ₁:=⟨LM cells [("cell", .int c),("name", .str (Zc c)),("number", .int (n3 c)),("ways", .lst ((Zg (Zc c)).map .str)),("way", .str (dWay c)),("other", .int (Zm c:Int)),("one", .int (dOne c:Int)),("more", .int (Zab c)),("base", .int (ZS c:Int)),("bits", .int (Zi (Zc c))),("many", .int (Zt c:Int)),("mem", (memO c).pv C.K)],[("held", 0),("at", 1),("seed", 2)],LG C.K { l with at_:=some (.int (atOf l c)) } ++ X,none,[]⟩) ?_ ?_
  . rw [<- ZjM (l:=l) (v:=some (.int (atOf l c)))]
    exact ZcC (v:=.int (atOf l c)) (by unfold atOf; repeat' k_extra "w") (by k_extra "lkN") (by k_extra "hget1") rfl (by kernel_rfl)
  have ga:=Zn8 (K:=C.K) (l:={ l with at_:=some (.int (atOf l c)) }) (X:=X)
  refine Za (σ₁:=⟨LM cells [("cell", .int c),("name", .str (Zc c)),("number", .int (n3 c)),("ways", .lst ((Zg (Zc c)).map .str)),("way", .str (dWay c)),("other", .int (Zm c:Int)),("one", .int (dOne c:Int)),("more", .int (Zab c)),("base", .int (ZS c:Int)),("bits", .int (Zi (Zc c))),("many", .int (Zt c:Int)),("mem", (memO c).pv C.K),("line", ZP C.K (Zc c) ((opA c).pv C.K) ((opB c).pv C.K))],[("held", 0),("at", 1),("seed", 2)],LG C.K { l with at_:=some (.int (atOf l c)) } ++ X,none,[]⟩) (Zj (v:=ZP C.K (Zc c) ((opA c).pv C.K) ((opB c).pv C.K)) (l:=LM cells [("cell", .int c),("name", .str (Zc c)),("number", .int (n3 c)),("ways", .lst ((Zg (Zc c)).map .str)),("way", .str (dWay c)),("other", .int (Zm c:Int)),("one", .int (dOne c:Int)),("more", .int (Zab c)),("base", .int (ZS c:Int)),("bits", .int (Zi (Zc c))),("many", .int (Zt c:Int)),("mem", (memO c).pv C.K)]) (ZU (H:=LG C.K { l with at_:=some (.int (atOf l c)) } ++ X) (args:=[.str (Zc c),.tup [(opA c).pv C.K,(opB c).pv C.K]]) G (by kernel_rfl) (by kernel_rfl) (by kernel_rfl) (Zu (by k_extra "w") (Zu (ZkV (Zu (ZU (H:=LG C.K { l with at_:=some (.int (atOf l c)) } ++ X) (r:=(opA c).pv C.K) (args:=[.str (Txt.item (dWay c) 0),.int (dOne c:Int),.int (Zi (Zc c)),(memO c).pv C.K]) G (by kernel_rfl) (by kernel_rfl) (by kernel_rfl) (Zu (Zaj (a:=.str (dWay c)) (i:=.int 0) (by k_extra "w") (by k_extra "w") (Zc4 hway (by decide) (by decide))) (by repeat' k_extra "w")) (Zct (k:=k + 6) G (by assumption) hg0)) (Zu (ZU (H:=LG C.K { l with at_:=some (.int (atOf l c)) } ++ X) (r:=(opB c).pv C.K) (args:=[.str (Txt.item (dWay c) 1),.int (Zm c:Int),.int (Zi (Zc c)),(memO c).pv C.K]) G (by kernel_rfl) (by kernel_rfl) (by kernel_rfl) (Zu (Zaj (a:=.str (dWay c)) (i:=.int 1) (by k_extra "w") (by k_extra "w") (Zc4 hway (by decide) (by decide))) (by repeat' k_extra "w")) (Zct (k:=k + 6) G (by assumption) hg1)) ZH)) (by simp)) ZH)) (Zh0 (k:=k + 7) G D)) (by k_extra "stl") rfl (by kernel_rfl)) ?_
  refine Za (Zj (v:=.bool (Zak c (atOf l c))) (l:=LM cells [("cell", .int c),("name", .str (Zc c)),("number", .int (n3 c)),("ways", .lst ((Zg (Zc c)).map .str)),("way", .str (dWay c)),("other", .int (Zm c:Int)),("one", .int (dOne c:Int)),("more", .int (Zab c)),("base", .int (ZS c:Int)),("bits", .int (Zi (Zc c))),("many", .int (Zt c:Int)),("mem", (memO c).pv C.K),("line", ZP C.K (Zc c) ((opA c).pv C.K) ((opB c).pv C.K))]) (by
    unfold Zak
    repeat' k_extra "w") (by k_extra "stl") rfl (by kernel_rfl)) hr
end
theorem walk_C29_z:True:=by
  k_with "d29" => skip
  trivial
end
section
noncomputable def ZC (l:LS) (c:Int):List Int:=
  if (Txt.item (dWay c) 1 == "x") = true then pick (l.rows.getD (Zm c) []) none (some (Zt c:Int))
  else if (Txt.item (dWay c) 1 == "m") = true then (List.range (Zt c)).map fun i:Nat=>mget (atOf l c + (0 + (i:Int) * 1)) l.held
  else octP (l.whole.getD (gnum (Zm c)) 0) (Zt c)
theorem ZaC (c:Int):Zt c <= 16:=by
  unfold Zt
  exact (bt (Zb6 _ (Zn c))).2.2.2.2
theorem walk_C30_0:True:=by
  k_with "bin" => (fail_if_success k_extra "d30"); first | exact ZQ (by first | decide | assumption)
  k_with "sb" => (fail_if_success k_extra "d30"); first | exact Zcy | exact ZgA (.led (by k_extra "hget1")) (by assumption) (by assumption) | exact ZdF (.led (by k_extra "hget1")) (by assumption) (by lia)
  k_with "me" => (fail_if_success k_extra "d30"); exact ZkO (.inl (by k_extra "hget"))
  k_with "call" => (fail_if_success k_extra "d30"); first | exact ZA | refine' ZeD (by k_extra "hget") | exact ZbK (fun _ _ _ _=>.fz _) (by simp; lia) | refine' Zkz (by assumption) ?_
  trivial
section
variable {C:Cx} {k:Nat} (G:KF C.K) {la:Addr} {lcd:Value}
include G
theorem Zlq {l:LS} {X:List AObj} {c:Int} {cells:List Int} {S':MS} (hb:Zak c (atOf l c) = false)
    (h:CallJ C (k + 10) (.ref (ga C.K "vector_deed")) [.ref 8,ZP C.K (Zc c) ((opA c).pv C.K) ((opB c).pv C.K)] (LG C.K l ++ X) (.bool true) (LG C.K { l with S:=S' } ++ X)) :
    Ex1 C (k + 10) (ZB la lcd) ⟨LR C.K cells c l,Zd,LG C.K l ++ X,none,[]⟩ ((Zh (LB 13)).getD 15 (LB 0)) .next ⟨LR C.K cells c l,Zd,LG C.K { l with S:=S' } ++ X,none,[]⟩:=by
  unfold Zd
  show Ex1 _ _ _ _ (.Try _ (_ :: _) [] [] _) _ _
  refine Zmv ?_
  refine' Zs (Zei (Zb8 (ZU G (by kernel_rfl) (by kernel_rfl) (by kernel_rfl) (by repeat' k_extra "w") h) ZbH)) rfl ?_
  refine' Zs (Zb8 (by k_extra "w") ZbH) hb Ze
theorem Zja (GX:KX C.K) {l:LS} {X:List AObj} {c:Int} {cells:List Int} (hb:Zak c (atOf l c) = true)
    (h:Zb1 C 61 (.ref (ga C.K "vector_deed")) [.ref 8,ZP C.K (Zc c) ((opA c).pv C.K) ((opB c).pv C.K)] (LG C.K l ++ X)) :
    Ex1 C 61 (ZB la lcd) ⟨LR C.K cells c l,Zd,LG C.K l ++ X,none,[]⟩ ((Zh (LB 13)).getD 15 (LB 0)) .cont ⟨LR C.K cells c l,Zd,LG C.K l ++ X,none,[]⟩:=by
  unfold Zd
  show Ex1 _ _ _ _ (.Try (_ :: _) (.ExceptHandler (some (.Name _ _)) none (_ :: _) _ :: _) [] [] _) _ _
  refine Zmu (σ₁:=⟨LR C.K cells c l,[("held", 0),("at", 1),("seed", 2)],LG C.K l ++ X,none,[]⟩) G GX rfl (by kernel_rfl) ?_ ?_
  . exact ZaB (Zio (ZlY (Zek (Zba G (by kernel_rfl) (by kernel_rfl) (by kernel_rfl) rfl (by repeat' k_extra "w") h))))
  . refine' Zs (Zei (Zb8 (by k_extra "w") ZbH)) (by rw [hb]; rfl) ?_
    exact Zy Zim (by intro e; cases e)
theorem Zhq {l:LS} {X:List AObj} {c:Int} {cells:List Int} (hr:l.rows.length = 16) (hrl:∀ r ∈ l.rows,r.length = 16) (hw:l.whole.length = 16) (ha:l.at_ = some (.int (atOf l c))) :
    Ex1 C (k + 10) (ZB la lcd) ⟨LR C.K cells c l,Zd,LG C.K l ++ X,none,[]⟩ ((Zh (LB 13)).getD 16 (LB 0)) .next ⟨stl (Str.ofString "taken") (.lst ((ZC l c).map .int)) (LR C.K cells c l),Zd,LG C.K l ++ X,none,[]⟩:=by
  have hway:=Zda _ _ (Zx c)
  have hml:=ZaC c
  have ho:=Zbs c
  have hor:Zm c < l.rows.length:=by lia
  have hor2:l.rows.length <= 100000:=by lia
  have hgw:gnum (Zm c) < l.whole.length:=by have:=Zbi (Zm c); lia
  have hrow:(l.rows.getD (Zm c) []).length = 16:=hrl _ (by rw [List.getD_eq_getElem?_getD,List.getElem?_eq_getElem hor]; exact List.getElem_mem _)
  have g1:(LG C.K l ++ X)[1]? = some (.cell (some (.int (atOf l c)))):=by rw [<- ha]; rfl
  unfold Zd ZC
  show Ex1 _ _ _ _ (.If _ _ _ _) _ _
  let S0:St:=⟨LR C.K cells c l,[("held", 0),("at", 1),("seed", 2)],LG C.K l ++ X,none,[]⟩
  refine ZcN (c:=Txt.item (dWay c) 1 == "x") (Zal (Zaj (a:=.str (dWay c)) (i:=.int 1) (by k_extra "w") (by k_extra "w") (Zc4 hway (by decide) (by decide))) (by k_extra "w") (by k_extra "w")) (fun h=>?_) (fun h=>?_)
  . rw [if_pos h]
    exact Za (Zj (Zby (xs:=l.rows.getD (Zm c) []) (v:=.lst ((l.rows.getD (Zm c) []).map .int)) (by
      repeat' k_extra "w"
      exact ZbK (fun _ _ _ _=>.fz _) (by rw [List.length_map]; lia)) (.fz _) .none (ZaO (by k_extra "w")) (by lia)) rfl rfl (by kernel_rfl)) Ze
  . rw [if_neg (by rw [h]; decide)]
    refine Za (ZcN (c:=Txt.item (dWay c) 1 == "m") (Zal (Zaj (a:=.str (dWay c)) (i:=.int 1) (by k_extra "w") (by k_extra "w") (Zc4 hway (by decide) (by decide))) (by k_extra "w") (by k_extra "w")) (fun h=>?_) (fun h=>?_)) Ze
    . rw [if_pos h]
      refine Za (Zmy (Zex (a:=0) (b:=(Zt c:Int)) (c:=1) (n:=Zt c) (cc:=[("at", 1),("held", 0)]) (fun i:Nat=>mget (atOf l c + (0 + (i:Int) * 1)) l.held) rfl (by repeat' k_extra "w") (small_one (by decide) (by decide) (by lia) (by lia)) ZeM (by lia) (Zjt (by kernel_rfl) (by kernel_rfl) (by k_extra "lkN") (by k_extra "lkN")) (by kernel_rfl) (by kernel_rfl) (fun i hi os ho=>?_)) (Nat.le_refl _) rfl rfl (by kernel_rfl)) Ze
      repeat' k_extra "w"
    . rw [if_neg (by rw [h]; decide)]
      refine Za (Zj (v:=.lst ((octP (l.whole.getD (gnum (Zm c)) 0) (Zt c)).map .int)) (ZU (args:=[.int (l.whole.getD (gnum (Zm c)) 0),.int (Zt c:Int)]) (H:=LG C.K l ++ X) G (by kernel_rfl) (by kernel_rfl) (by kernel_rfl) (Zu (σ₁:=S0) (Zaj (σ₁:=S0) (σ₂:=S0) (a:=.ref 17) (i:=.int (gnum (Zm c):Int)) (by k_extra "w") (Zaj (σ₁:=S0) (σ₂:=S0) (a:=.tup [.int 0,.int 1,.int 2,.int 8,.int 15]) (i:=.int ((Zm c:Int) % 5)) (by repeat' k_extra "w") (by repeat' k_extra "w") Zcy) (ZdF (.led ZdH) hgw (by lia))) (by repeat' k_extra "w")) (Zkz (k:=k + 8) G (by lia))) rfl rfl (by kernel_rfl)) Ze
end
theorem walk_C30_z:True:=by
  k_with "d30" => skip
  trivial
end
section
noncomputable def wrH (a:Int) (t:List Int) (held:List (Int × Int)):Nat -> List (Int × Int)
  | 0=>held
  | i + 1=>mput (a + (i:Int)) (t.getD i 0) (wrH a t held i)
theorem Zm3 {a:Int} {t:List Int} {held:List (Int × Int)} {i:Nat}:wrH a t held (i + 1) = mput (a + (i:Int)) (t.getD i 0) (wrH a t held i):=rfl
theorem ZeE (a:Int) (t:List Int) (held:List (Int × Int)):∀ n,(wrH a t held n).length <= held.length + n
  | 0=>Nat.le_refl _
  | n + 1=>by
    have:=Zbh (a + (n:Int)) (t.getD n 0) (wrH a t held n)
    have:=ZeE a t held n
    rw [Zm3]; lia
noncomputable abbrev LT (K:Frag) (cells:List Int) (c:Int) (bd:Bool) (t:List Int):List (Str × PV):=LM cells [("cell", .int c),("name", .str (Zc c)),("number", .int (n3 c)),("ways", .lst ((Zg (Zc c)).map .str)),("way", .str (dWay c)),("other", .int (Zm c:Int)),("one", .int (dOne c:Int)),("more", .int (Zab c)),("base", .int (ZS c:Int)),("bits", .int (Zi (Zc c))),("many", .int (Zt c:Int)),("mem", (memO c).pv K),("line", ZP K (Zc c) ((opA c).pv K) ((opB c).pv K)),("is_barred", .bool bd),("taken", .lst (t.map .int))]
noncomputable abbrev LTs (K:Frag) (cells:List Int) (c:Int) (bd:Bool) (t:List Int) (i:Nat):List (Str × PV):=LM cells [("cell", .int c),("name", .str (Zc c)),("number", .int (n3 c)),("ways", .lst ((Zg (Zc c)).map .str)),("way", .str (dWay c)),("other", .int (Zm c:Int)),("one", .int (dOne c:Int)),("more", .int (Zab c)),("base", .int (ZS c:Int)),("bits", .int (Zi (Zc c))),("many", .int (Zt c:Int)),("mem", (memO c).pv K),("line", ZP K (Zc c) ((opA c).pv K) ((opB c).pv K)),("is_barred", .bool bd),("taken", .lst (t.map .int)),("spot", .int (i:Int))]
noncomputable def ZfG (s:Stmt):List Stmt:=by
  cases s with
  | If _ b _ _=>exact b
  | _=>exact []
noncomputable def ZhB (s:Stmt):List Stmt:=by
  cases s with
  | If _ _ e _=>exact e
  | _=>exact []
noncomputable def Zbq (s:Stmt):Stmt:=(ZhB s).headD s
noncomputable def U0:Stmt:=(Zh (LB 13)).getD 17 (LB 0)
theorem walk_C31_0:True:=by
  k_with "bin" => (fail_if_success k_extra "d31"); first | exact ZQ (by first | decide | assumption)
  k_with "sb" => (fail_if_success k_extra "d31"); first | exact Zcy | exact ZgA (.led (by k_extra "hget1")) (by assumption) (by assumption) | exact ZdF (.led (by k_extra "hget1")) (by assumption) (by lia) | exact ZdF (.fz _) (by assumption) (by lia)
  k_with "cmp" => (fail_if_success k_extra "d31"); first | exact ZbJ
  k_with "call" => (fail_if_success k_extra "d31"); first | exact ZA | refine' ZdA (by assumption) ?_ ?_ | with_reducible assumption
  k_with "si" => (fail_if_success k_extra "d31"); first | exact ZjK (by k_extra "hget1") (by lia) | exact Zgz (by k_extra "hget1") (by assumption) (by lia)
  trivial
section
variable {C:Cx} {k:Nat} {fi:Fi}
theorem Zl5 {l:List (Str × PV)} {cm:List (Str × Nat)} {H:List AObj} {ci:Option Nat} {cc:List (Str × Nat)} {i j:Nat} {xs:List (List Int)} {v:List Int} (D:H[i]? = some (.list (xs.map rowP))) (hj:j < xs.length) (hz:xs.length <= 100000):SiJ C k fi ⟨l,cm,H,ci,cc⟩ (.ref i) (.int (j:Int)) (.lst (v.map .int)) ⟨l,cm,H.set i (.list ((xs.set j v).map rowP)),ci,cc⟩:=by
  have:=ZfU (C:=C) (k:=k) (fi:=fi) (l:=l) (cm:=cm) (ci:=ci) (cc:=cc) (j:=(j:Int)) (x:=rowP v) D (by lia) (by lia) (by simpa using hj)
  rw [<- show (xs.map rowP).set ((j:Int).toNat) (rowP v) = (xs.set j v).map rowP by simp [List.map_set]]
  exact this
theorem Z5 {o i e:Expr} {p pos:Pos} {v a j:PV} {σ σ':St} (h:Ev C k fi σ e v σ) (h2:Ev C k fi σ o a σ) (h3:Ev C k fi σ i j σ) (h4:SiJ C k fi σ a j v σ') (hs:∀ env,swapsWith e (some (o.Subscript i p)) pos.line env = pure false:=by intro _; rfl) :
    Ex1 C k fi σ (.Assign [o.Subscript i p] e pos) .next σ':=Zc6 h h2 h3 h4 hs
theorem Ziq {o i:Expr} {pos:Pos} {a j v:PV} {σ:St} (h2:Ev C k fi σ o a σ) (h3:Ev C k fi σ i j σ) (h4:SbJ C k fi σ o i a j v σ):Ev C k fi σ (.Subscript o i pos) v σ:=Zaj h2 h3 h4
variable (G:KF C.K) {la:Addr} {lcd:Value}
include G
theorem Zi6 {l:LS} {X:List AObj} {c:Int} {cells:List Int} {bd:Bool} {t:List Int} {A:Int} (ha:l.at_ = some (.int A)) (ht:t.length = Zt c) (hz:l.held.length <= 800) :
    Ex C (k + 10) (ZB la lcd) ⟨LT C.K cells c bd t,Zd,LG C.K l ++ X,none,[]⟩ (ZfG U0) .next ⟨LT C.K cells c bd t,Zd,LG C.K ⟨l.at_,l.seed,l.S,l.rows,l.whole,wrH A t l.held (Zt c)⟩ ++ X,none,[]⟩:=by
  have hml:=ZaC c
  refine Zmx fun lH lL _=>?_
  unfold Zd
  show Ex _ _ _ _ [.For _ _ _ _ _] _ _
  refine Za (Za9 (n:=Zt c) (fun _=>LT C.K cells c bd t) (fun i=>LG C.K ⟨l.at_,l.seed,l.S,l.rows,l.whole,wrH A t l.held i⟩ ++ X) rfl (by kernel_rfl) (by repeat' k_extra "w") (by lia) (fun _ _ e=>e) rfl (fun _=>by simp [Z0]) ?_ ?_ lL) Ze
  . intro i hi os ho
    have hit:i < t.length:=by lia
    have hwl:=ZeE A t l.held i
    have g1:(LG C.K ⟨l.at_,l.seed,l.S,l.rows,l.whole,wrH A t l.held i⟩ ++ (X ++ os.map AObj.raw))[1]? = some (.cell (some (.int A))):=by rw [<- ha]; rfl
    refine ⟨LTs C.K cells c bd t i,.next,.inl rfl,?_,fun x v e=>?_⟩
    . refine ZaA (l':=LTs C.K cells c bd t i) (by k_extra "stl") ?_
      simp only [List.append_assoc]
      have e:LG C.K ⟨l.at_,l.seed,l.S,l.rows,l.whole,wrH A t l.held (i + 1)⟩ ++ (X ++ os.map AObj.raw) = (LG C.K ⟨l.at_,l.seed,l.S,l.rows,l.whole,wrH A t l.held i⟩ ++ (X ++ os.map AObj.raw)).set 18 (.dict (dI (mput (A + (i:Int)) (t.getD i 0) (wrH A t l.held i)))):=rfl
      rw [e]
      show Ex _ _ _ _ [.Assign _ _ _] _ _
      refine Za (Z5 (v:=.int (t.getD i 0)) (a:=.ref 18) (j:=.int (A + (i:Int))) (by repeat' k_extra "w") (by repeat' k_extra "w") (by repeat' k_extra "w") (ZjK Zii (by show (wrH A t l.held i).length ≤ _; lia))) Ze
    . revert x v e; show LSub (LT C.K cells c bd t) (LTs C.K cells c bd t i); k_extra "lsub"
  . have:=lH.set (i:=18) (ZbO (n:=(LG C.K l ++ X).length) (wrH A t l.held (Zt c)))
    exact this
theorem Zi7 {l:LS} {X:List AObj} {c:Int} {cells:List Int} {bd:Bool} {t:List Int} (ht:t.length <= 16) (ho:∀ x ∈ t,0 <= x /\ x < 256) (hw:l.whole.length = 16) :
    Ex C (k + 10) (ZB la lcd) ⟨LT C.K cells c bd t,Zd,LG C.K l ++ X,none,[]⟩ (ZfG (Zbq U0)) .next ⟨LT C.K cells c bd t,Zd,LG C.K ⟨l.at_,l.seed,l.S,l.rows,l.whole.set (gnum (dOne c)) (Zb t),l.held⟩ ++ X,none,[]⟩:=by
  have hgw:gnum (dOne c) < l.whole.length:=by have:=Zbi (dOne c); lia
  unfold Zd
  show Ex _ _ _ _ [.Assign _ _ _] _ _
  have e:LG C.K ⟨l.at_,l.seed,l.S,l.rows,l.whole.set (gnum (dOne c)) (Zb t),l.held⟩ ++ X = (LG C.K l ++ X).set 17 (.list ((l.whole.set (gnum (dOne c)) (Zb t)).map .int)):=rfl
  rw [e]
  refine Za (Z5 (v:=.int (Zb t)) (a:=.ref 17) (j:=.int (gnum (dOne c):Int)) (by
    repeat' k_extra "w"
    . exact ho
    . lia) (by repeat' k_extra "w") (Ziq (a:=.tup [.int 0,.int 1,.int 2,.int 8,.int 15]) (j:=.int ((dOne c:Int) % 5)) (by repeat' k_extra "w") (by repeat' k_extra "w") Zcy) (Zgz ZdH hgw (by lia))) Ze
theorem Zi8 {l:LS} {X:List AObj} {c:Int} {cells:List Int} {bd:Bool} {t d:List Int} (hr:l.rows.length = 16)
    (hd:CallJ C (k + 10) (.ref (ga C.K "_law_done")) [.str (Zc c),.lst ((l.rows.getD (dOne c) []).map .int),.lst (t.map .int)] (LG C.K l ++ X) (.lst (d.map .int)) (LG C.K l ++ X)) :
    Ex C (k + 10) (ZB la lcd) ⟨LT C.K cells c bd t,Zd,LG C.K l ++ X,none,[]⟩ (ZfG (Zbq (Zbq U0))) .next ⟨LT C.K cells c bd t,Zd,LG C.K ⟨l.at_,l.seed,l.S,l.rows.set (dOne c) d,l.whole,l.held⟩ ++ X,none,[]⟩:=by
  have hor:dOne c < l.rows.length:=by have:=Za1 c; lia
  have hor2:l.rows.length <= 100000:=by lia
  unfold Zd
  show Ex _ _ _ _ [.Assign _ _ _] _ _
  have e:LG C.K ⟨l.at_,l.seed,l.S,l.rows.set (dOne c) d,l.whole,l.held⟩ ++ X = (LG C.K l ++ X).set 16 (.list ((l.rows.set (dOne c) d).map rowP)):=rfl
  rw [e]
  refine Za (Z5 (v:=.lst (d.map .int)) (a:=.ref 16) (j:=.int (dOne c:Int)) (ZU (args:=[.str (Zc c),.lst ((l.rows.getD (dOne c) []).map .int),.lst (t.map .int)]) (H:=LG C.K l ++ X) G (by kernel_rfl) (by kernel_rfl) (by kernel_rfl) (by repeat' k_extra "w") hd) (by repeat' k_extra "w") (by repeat' k_extra "w") (Zl5 ZcB hor hor2)) Ze
theorem Zi5 {l:LS} {X:List AObj} {c:Int} {cells:List Int} {bd:Bool} {t:List Int} (hr:l.rows.length = 16) (hrl:∀ r ∈ l.rows,r.length = 16) (ht:t.length <= 16) :
    Ex C (k + 10) (ZB la lcd) ⟨LT C.K cells c bd t,Zd,LG C.K l ++ X,none,[]⟩ (ZfG (Zbq (Zbq (Zbq U0)))) .next ⟨LT C.K cells c bd t,Zd,LG C.K ⟨l.at_,l.seed,l.S,l.rows.set (dOne c) (t ++ pick (l.rows.getD (dOne c) []) (some (Zt c:Int)) none),l.whole,l.held⟩ ++ X,none,[]⟩:=by
  have hor:dOne c < l.rows.length:=by have:=Za1 c; lia
  have hor2:l.rows.length <= 100000:=by lia
  have hml:=ZaC c
  have hrow:(l.rows.getD (dOne c) []).length = 16:=hrl _ (by rw [List.getD_eq_getElem?_getD,List.getElem?_eq_getElem hor]; exact List.getElem_mem _)
  have hpl:(pick (l.rows.getD (dOne c) []) (some (Zt c:Int)) none).length <= 16:=by
    unfold pick; rw [List.length_take,List.length_drop]; exact Nat.le_trans (Nat.min_le_right _ _) (Nat.le_trans (Nat.sub_le _ _) (Nat.le_of_eq hrow))
  unfold Zd
  show Ex _ _ _ _ [.Assign _ _ _] _ _
  have e:LG C.K ⟨l.at_,l.seed,l.S,l.rows.set (dOne c) (t ++ pick (l.rows.getD (dOne c) []) (some (Zt c:Int)) none),l.whole,l.held⟩ ++ X = (LG C.K l ++ X).set 16 (.list ((l.rows.set (dOne c) (t ++ pick (l.rows.getD (dOne c) []) (some (Zt c:Int)) none)).map rowP)):=rfl
  rw [e]
  refine Za (Z5 (v:=.lst ((t ++ pick (l.rows.getD (dOne c) []) (some (Zt c:Int)) none).map .int)) (a:=.ref 16) (j:=.int (dOne c:Int)) ?_ (by repeat' k_extra "w") (by repeat' k_extra "w") (Zl5 ZcB hor hor2)) Ze
  rw [List.map_append]
  let S0:St:=⟨LT C.K cells c bd t,[("held", 0),("at", 1),("seed", 2)],LG C.K l ++ X,none,[]⟩
  refine ZbY (σ₁:=S0) (σ₂:=S0) (a:=.lst (t.map .int)) (b:=.lst ((pick (l.rows.getD (dOne c) []) (some (Zt c:Int)) none).map .int)) (by k_extra "w") (Zby (xs:=l.rows.getD (dOne c) []) (v:=rowP (l.rows.getD (dOne c) [])) (Ziq (by k_extra "w") (by k_extra "w") (ZgA (.led ZcB) hor hor2)) (.fz _) (ZaO (by k_extra "w")) .none (by lia)) (ZdN (.fz _) (.fz _) (by rw [List.length_map,List.length_map]; lia))
theorem Zi4 {l:LS} {X:List AObj} {c:Int} {cells:List Int} {bd:Bool} {t:List Int} (hr:l.rows.length = 16) (ht:t.length <= 16) :
    Ex C (k + 10) (ZB la lcd) ⟨LT C.K cells c bd t,Zd,LG C.K l ++ X,none,[]⟩ (ZhB (Zbq (Zbq (Zbq U0)))) .next ⟨LT C.K cells c bd t,Zd,LG C.K ⟨l.at_,l.seed,l.S,l.rows.set (dOne c) (t ++ List.replicate (16 - Zt c) 0),l.whole,l.held⟩ ++ X,none,[]⟩:=by
  have hor:dOne c < l.rows.length:=by have:=Za1 c; lia
  have hor2:l.rows.length <= 100000:=by lia
  have hml:=ZaC c
  unfold Zd
  show Ex _ _ _ _ [.Assign _ _ _] _ _
  have e:LG C.K ⟨l.at_,l.seed,l.S,l.rows.set (dOne c) (t ++ List.replicate (16 - Zt c) 0),l.whole,l.held⟩ ++ X = (LG C.K l ++ X).set 16 (.list ((l.rows.set (dOne c) (t ++ List.replicate (16 - Zt c) 0)).map rowP)):=rfl
  rw [e]
  refine Za (Z5 (v:=.lst ((t ++ List.replicate (16 - Zt c) 0).map .int)) (a:=.ref 16) (j:=.int (dOne c:Int)) ?_ (by repeat' k_extra "w") (by repeat' k_extra "w") (Zl5 ZcB hor hor2)) Ze
  rw [List.map_append,List.map_replicate]
  have en:((16:Int) - (Zt c:Int)).toNat = 16 - Zt c:=Int.toNat_sub 16 _
  let S0:St:=⟨LT C.K cells c bd t,[("held", 0),("at", 1),("seed", 2)],LG C.K l ++ X,none,[]⟩
  refine ZbY (σ₁:=S0) (σ₂:=S0) (a:=.lst (t.map .int)) (b:=.lst (List.replicate (16 - Zt c) (.int 0))) (by k_extra "w") ?_ (ZdN (.fz _) (.fz _) (by rw [List.length_map,List.length_replicate]; lia))
  rw [<- en]
  exact ZbY (σ₁:=S0) (σ₂:=S0) (a:=.lst [.int 0]) (b:=.int ((16:Int) - (Zt c:Int))) (ZaH (by repeat' k_extra "w")) (by repeat' k_extra "w") (ZdM (.fz _) (by lia) (by lia))
end
theorem walk_C31_z:True:=by
  k_with "d31" => skip
  trivial
end
section
noncomputable def Octs (xs:List Int):Prop:=∀ x ∈ xs,0 <= x /\ x < 256
theorem Zcd (xs:List Int):Zb xs = xs.foldr (fun o t=>t * 256 + o) 0:=by
  unfold Zb facc
  rw [List.take_length,List.foldl_reverse]
theorem ZR:Zb [] = 0:=rfl
theorem Zl (x:Int) (xs:List Int):Zb (x :: xs) = x + 256 * Zb xs:=by
  rw [Zcd,Zcd]; simp only [List.foldr_cons]; lia
theorem Octs.cons {x:Int} {xs:List Int} (h:Octs (x :: xs)):(0 <= x /\ x < 256) /\ Octs xs:=⟨h x (.head _),fun y hy=>h y (.tail _ hy)⟩
theorem Octs.app {xs ys:List Int} (h:Octs xs) (h':Octs ys):Octs (xs ++ ys):=fun y hy=>by
  rcases List.mem_append.mp hy with hy | hy
  . exact h y hy
  . exact h' y hy
theorem Octs.take {xs:List Int} (h:Octs xs) (n:Nat):Octs (xs.take n):=fun y hy=>h y (List.mem_of_mem_take hy)
theorem Octs.drop {xs:List Int} (h:Octs xs) (n:Nat):Octs (xs.drop n):=fun y hy=>h y (List.mem_of_mem_drop hy)
theorem Octs.rep {n:Nat} {x:Int} (h0:0 <= x) (h1:x < 256):Octs (List.replicate n x):=fun y hy=>by
  rw [(List.mem_replicate.mp hy).2]; exact ⟨h0,h1⟩
theorem Octs.map {α:Type} {xs:List α} {f:α -> Int} (h:∀ a ∈ xs,0 <= f a /\ f a < 256):Octs (xs.map f):=fun y hy=>by
  refine e1a1 (List.mem_map.mp hy) fun a ha hqa=>?_; subst hqa; exact h a ha
theorem Octs.getD {xs:List Int} (h:Octs xs) (i:Nat):0 <= xs.getD i 0 /\ xs.getD i 0 < 256:=by
  rw [List.getD_eq_getElem?_getD]
  by_cases hi:i < xs.length
  . rw [List.getElem?_eq_getElem hi]; exact h _ (List.getElem_mem _)
  . rw [List.getElem?_eq_none (by lia)]; decide
theorem p256 (n:Nat):(0:Int) < 256 ^ n:=Int.pow_pos (by decide)
theorem Zq:∀ {xs:List Int},Octs xs -> 0 <= Zb xs /\ Zb xs < 256 ^ xs.length
  | [],_=>by rw [ZR]; decide
  | x :: xs,h=>by
    refine e0a1 h.cons fun hx h=>?_
    have ih:=Zq h
    rw [Zl,List.length_cons,Int.pow_succ]; lia
theorem ZI:∀ (xs ys:List Int),Zb (xs ++ ys) = Zb xs + 256 ^ xs.length * Zb ys
  | [],ys=>by rw [ZR]; simp
  | x :: xs,ys=>by
    rw [List.cons_append,Zl,ZI,Zl,List.length_cons,Int.pow_succ,Int.mul_add,<- Int.mul_assoc,Int.mul_comm 256 (256 ^ xs.length)]; lia
theorem Zbg:∀ n:Nat,Zb (List.replicate n 0) = 0
  | 0=>rfl
  | n + 1=>by rw [List.replicate_succ,Zl,Zbg]; rfl
theorem Zcc (xs:List Int) (n:Nat) (hn:n <= xs.length):Zb xs = Zb (xs.take n) + 256 ^ n * Zb (xs.drop n):=by
  have:=ZI (xs.take n) (xs.drop n)
  rw [List.take_append_drop,List.length_take,Nat.min_eq_left hn] at this
  exact this
theorem ZcP {xs:List Int} (h:Octs xs) (n:Nat) (hn:n <= xs.length):Zb (xs.take n) = Zb xs % 256 ^ n:=by
  have hb:=Zq (h.take n)
  rw [List.length_take,Nat.min_eq_left hn] at hb
  rw [Zcc xs n hn,Int.add_mul_emod_self_left]
  exact (Int.emod_eq_of_lt hb.1 hb.2).symm
theorem ZbA {xs:List Int} (h:Octs xs) (n:Nat) (hn:n <= xs.length):Zb (xs.drop n) = Zb xs / 256 ^ n:=by
  have hb:=Zq (h.take n)
  rw [List.length_take,Nat.min_eq_left hn] at hb
  rw [Zcc xs n hn,Int.add_mul_ediv_left _ _ (Int.ne_of_gt (p256 n)),Int.ediv_eq_zero_of_lt hb.1 hb.2]; lia
theorem ZeG {xs:List Int} (h:Octs xs) (i:Nat):Zb xs / 256 ^ i % 256 = xs.getD i 0:=by
  by_cases hi:i < xs.length
  . rw [<- ZbA h i (by lia)]
    rw [List.drop_eq_getElem_cons hi,Zl,Int.add_mul_emod_self_left,List.getD_eq_getElem?_getD,List.getElem?_eq_getElem hi]
    have:=h xs[i] (List.getElem_mem _)
    exact Int.emod_eq_of_lt this.1 this.2
  . have hb:=Zq h
    rw [List.getD_eq_getElem?_getD,List.getElem?_eq_none (by lia)]
    have:(256:Int) ^ xs.length <= 256 ^ i:=by
      have:(256:Nat) ^ xs.length <= 256 ^ i:=Nat.pow_le_pow_right (by decide) (by lia)
      exact_mod_cast this
    rw [Int.ediv_eq_zero_of_lt hb.1 (by lia)]; rfl
theorem Zfy (w:Int) (n:Nat):(octP w n).length = n:=by unfold octP; rw [List.length_map,List.length_range]
theorem Zhh (w:Int) (n:Nat):Octs (octP w n):=Octs.map fun i _=>⟨Int.emod_nonneg _ (by decide),Int.emod_lt_of_pos _ (by decide)⟩
theorem Zdw (w:Int) (n:Nat):w % 256 ^ (n + 1) = w % 256 ^ n + 256 ^ n * (w / 256 ^ n % 256):=by
  have hp:=p256 n
  have h1:=Int.emod_add_mul_ediv w (256 ^ n)
  have h2:=Int.emod_add_mul_ediv (w / 256 ^ n) 256
  have h3:w = (w % 256 ^ n + 256 ^ n * (w / 256 ^ n % 256)) + 256 ^ (n + 1) * (w / 256 ^ n / 256):=by
    have:(256:Int) ^ n * (w / 256 ^ n) = 256 ^ n * (w / 256 ^ n % 256) + 256 ^ (n + 1) * (w / 256 ^ n / 256):=by
      rw [Int.pow_succ,Int.mul_assoc,<- Int.mul_add,h2]
    lia
  have b1:=Int.emod_nonneg w (Int.ne_of_gt hp)
  have b2:=Int.emod_lt_of_pos w hp
  have b3:=Int.emod_nonneg (w / 256 ^ n) (b:=256) (by decide)
  have b4:=Int.emod_lt_of_pos (w / 256 ^ n) (b:=256) (by decide)
  have b5:256 ^ n * (w / 256 ^ n % 256) <= 256 ^ n * 255:=Int.mul_le_mul_of_nonneg_left (by lia) (by lia)
  have b6:0 <= 256 ^ n * (w / 256 ^ n % 256):=Int.mul_nonneg (by lia) b3
  conv=>lhs; rw [h3]
  rw [Int.add_mul_emod_self_left]
  refine Int.emod_eq_of_lt (by lia) ?_
  rw [Int.pow_succ]; lia
theorem ZcR (w:Int):∀ n:Nat,Zb (octP w n) = w % 256 ^ n
  | 0=>by simp [octP,ZR]
  | n + 1=>by
    rw [ZdY,ZI,Zfy,ZcR w n,Zl,ZR,Zdw]; simp
theorem Zbc (n:Nat):(2:Int) ^ (8 * n) = 256 ^ n:=by
  rw [Int.pow_mul]; rfl
theorem Zg8 (i:Nat):(2:Int) ^ (8 * (i:Int)).toNat = 256 ^ i:=by
  rw [show (8 * (i:Int)).toNat = 8 * i by lia,Zbc]
theorem Zfs {mem:List (Int × Int)} {place:Int}:∀ {n:Nat},ZbZ mem place n = Zb ((List.range n).map fun i:Nat=>mget ((place + (i:Int)) % 2 ^ 64) mem)
  | 0=>rfl
  | n + 1=>by
    rw [List.range_succ,List.map_append,ZI,Zlc,Zfs]
    simp only [List.map_cons,List.map_nil,Zl,ZR,List.length_map,List.length_range,Zg8,Int.mul_zero,Int.add_zero]
    rw [Int.mul_comm]
theorem rdA {mem:List (Int × Int)} {A:Int} {n:Nat} (h0:0 <= A) (h1:A + (n:Int) <= 2 ^ 64):ZbZ mem A n = Zb ((List.range n).map fun i:Nat=>mget (A + (0 + (i:Int) * 1)) mem):=by
  rw [Zfs]
  congr 1
  apply List.map_congr_left
  intro i hi
  have:=List.mem_range.mp hi
  rw [Int.emod_eq_of_lt (by lia) (by lia)]
  congr 1; lia
theorem ZgQ {A:Int} {t:List Int} {held:List (Int × Int)} (ht:Octs t):∀ {n:Nat},0 <= A -> A + (n:Int) <= 2 ^ 64 -> Zaw A (Zb t) held n = wrH A t held n
  | 0,_,_=>rfl
  | n + 1,h0,h1=>by
    have h1:A + ((n + 1:Nat):Int) <= 2 ^ 64:=h1
    rw [ZeF,Zm3,ZgQ ht h0 (by lia),Zg8,Int.emod_eq_of_lt (by lia) (by lia),Int.fdiv_eq_ediv_of_nonneg _ (Int.le_of_lt (p256 n)),ZeG ht]
theorem ZgR {A:Int} {t:List Int} {held:List (Int × Int)} (ht:Octs t) (h:Oct held):∀ n,Oct (wrH A t held n)
  | 0=>h
  | n + 1=>(ZgR ht h n).put (ht.getD n).1 (ht.getD n).2
end
section
theorem ZdC {x y X Y:Int} (hx:0 <= x /\ x < 256) (hy:0 <= y /\ y < 256) (hX:0 <= X) (hY:0 <= Y):Builtin.bitAnd (x + 256 * X) (y + 256 * Y) = Builtin.bitAnd x y + 256 * Builtin.bitAnd X Y:=by
  refine e1a0 (Int.eq_ofNat_of_zero_le hx.1) fun x hqa=>?_; subst hqa
  refine e1a0 (Int.eq_ofNat_of_zero_le hy.1) fun y hqa=>?_; subst hqa
  refine e1a0 (Int.eq_ofNat_of_zero_le hX) fun X hqa=>?_; subst hqa
  refine e1a0 (Int.eq_ofNat_of_zero_le hY) fun Y hqa=>?_; subst hqa
  rw [bitAnd_pp (by lia) (by lia),bitAnd_pp (by lia) (by lia),bitAnd_pp (by lia) (by lia)]
  have e1:((x:Int) + 256 * (X:Int)).toNat = x + 256 * X:=by lia
  have e2:((y:Int) + 256 * (Y:Int)).toNat = y + 256 * Y:=by lia
  rw [e1,e2]
  simp only [Int.toNat_natCast]
  have hm:=Nat.and_mod_two_pow (a:=x + 256 * X) (b:=y + 256 * Y) (n:=8)
  have hd:=Nat.and_div_two_pow (a:=x + 256 * X) (b:=y + 256 * Y) (n:=8)
  have q1:(x + 256 * X) % 2 ^ 8 = x:=by lia
  have q2:(y + 256 * Y) % 2 ^ 8 = y:=by lia
  have q3:(x + 256 * X) / 2 ^ 8 = X:=by lia
  have q4:(y + 256 * Y) / 2 ^ 8 = Y:=by lia
  rw [q1,q2] at hm
  rw [q3,q4] at hd
  have:=Nat.mod_add_div ((x + 256 * X) &&& (y + 256 * Y)) (2 ^ 8)
  rw [hm,hd] at this
  rw [<- this]; simp
theorem Zcw {x y:Int} (hx:0 <= x /\ x < 256) (hy:0 <= y /\ y < 256):0 <= Builtin.bitAnd x y /\ Builtin.bitAnd x y < 256:=by
  refine e1a0 (Int.eq_ofNat_of_zero_le hx.1) fun x hqa=>?_; subst hqa
  refine e1a0 (Int.eq_ofNat_of_zero_le hy.1) fun y hqa=>?_; subst hqa
  rw [bitAnd_pp (by lia) (by lia)]
  simp only [Int.toNat_natCast]
  have:=Nat.and_le_left (n:=x) (m:=y)
  lia
theorem Zfx {x y:Int} (hx:0 <= x /\ x < 256) (hy:0 <= y /\ y < 256):0 <= Builtin.bitOr x y /\ Builtin.bitOr x y < 256:=by
  refine e1a0 (Int.eq_ofNat_of_zero_le hx.1) fun x hqa=>?_; subst hqa
  refine e1a0 (Int.eq_ofNat_of_zero_le hy.1) fun y hqa=>?_; subst hqa
  have:Builtin.bitOr (x:Int) (y:Int) = ((x ||| y:Nat):Int):=by
    rw [bitOr_and,bitAnd_pp (by lia) (by lia)]
    simp only [Int.toNat_natCast]
    have:=PyProof.Rows.nat_or_add_and x y
    lia
  rw [this]
  have:=Nat.or_lt_two_pow (x:=x) (y:=y) (n:=8) (by lia) (by lia)
  lia
theorem ZgP {x y:Int} (hx:0 <= x /\ x < 256) (hy:0 <= y /\ y < 256):0 <= Builtin.bitXor x y /\ Builtin.bitXor x y < 256:=by
  have h1:=Zcw hx hy
  have h2:=Zfx hx hy
  rw [bitOr_and] at h2
  rw [bitXor_and]
  have:Builtin.bitAnd x y <= x /\ Builtin.bitAnd x y <= y:=by
    refine e1a0 (Int.eq_ofNat_of_zero_le hx.1) fun x hqa=>?_; subst hqa
    refine e1a0 (Int.eq_ofNat_of_zero_le hy.1) fun y hqa=>?_; subst hqa
    rw [bitAnd_pp (by lia) (by lia)]
    simp only [Int.toNat_natCast]
    have:=Nat.and_le_left (n:=x) (m:=y)
    have:=Nat.and_le_right (n:=x) (m:=y)
    lia
  lia
theorem Zce:∀ {a b:List Int},Octs a -> Octs b -> a.length = b.length -> Zb (List.zipWith Builtin.bitAnd a b) = Builtin.bitAnd (Zb a) (Zb b)
  | [],[],_,_,_=>by simp [ZR]; rfl
  | x :: a,y :: b,ha,hb,hl=>by
    refine e0a1 ha.cons fun hx ha=>?_
    refine e0a1 hb.cons fun hy hb=>?_
    rw [List.zipWith_cons_cons,Zl,Zl,Zl,ZdC hx hy (Zq ha).1 (Zq hb).1,Zce ha hb (by simpa using hl)]
theorem Zfo:∀ {a b:List Int},Octs a -> Octs b -> a.length = b.length -> Zb (List.zipWith Builtin.bitOr a b) = Builtin.bitOr (Zb a) (Zb b)
  | [],[],_,_,_=>by simp [ZR]; rfl
  | x :: a,y :: b,ha,hb,hl=>by
    refine e0a1 ha.cons fun hx ha=>?_
    refine e0a1 hb.cons fun hy hb=>?_
    rw [List.zipWith_cons_cons,Zl,Zl,Zl,Zfo ha hb (by simpa using hl),bitOr_and,bitOr_and,bitOr_and,ZdC hx hy (Zq ha).1 (Zq hb).1]; lia
theorem Zcb:∀ {a b:List Int},Octs a -> Octs b -> a.length = b.length -> Zb (List.zipWith Builtin.bitXor a b) = Builtin.bitXor (Zb a) (Zb b)
  | [],[],_,_,_=>by simp [ZR]; rfl
  | x :: a,y :: b,ha,hb,hl=>by
    refine e0a1 ha.cons fun hx ha=>?_
    refine e0a1 hb.cons fun hy hb=>?_
    rw [List.zipWith_cons_cons,Zl,Zl,Zl,Zcb ha hb (by simpa using hl),bitXor_and,bitXor_and,bitXor_and,ZdC hx hy (Zq ha).1 (Zq hb).1]; lia
theorem Zm2 {x:Int} (hx:0 <= x /\ x < 256):Builtin.bitXor 255 x = 255 - x:=by
  rw [bitXor_and,bitAnd_comm,bitAnd_m8,Int.emod_eq_of_lt hx.1 hx.2]; lia
theorem Zkg:∀ {n:Nat} {a:List Int},Octs a -> a.length = n -> List.zipWith Builtin.bitXor (List.replicate n 255) a = a.map (fun x=>255 - x)
  | 0,[],_,_=>rfl
  | n + 1,x :: a,h,hl=>by
    refine e0a1 h.cons fun hx h=>?_
    rw [List.replicate_succ,List.zipWith_cons_cons,List.map_cons,Zkg h (by simpa using hl),Zm2 hx]
theorem Zf6 {a b:List Int} (ha:Octs a) (hb:Octs b) (h1:a.length = 16) (h2:b.length = 16):Zb (List.zipWith (fun x y=>Builtin.bitAnd (255 - x) y) a b) = Builtin.bitAnd (Builtin.bitXor 340282366920938463463374607431768211455 (Zb a)) (Zb b):=by
  have e:(340282366920938463463374607431768211455:Int) = Zb (List.replicate 16 255):=by decide +kernel
  have ho:Octs (a.map (fun x=>255 - x)):=Octs.map fun x hx=>by have:=ha x hx; lia
  rw [e,<- Zcb (Octs.rep (by decide) (by decide)) ha (by rw [h1]; rfl),Zkg ha h1,<- Zce ho hb (by rw [List.length_map,h1,h2])]
  congr 1
  rw [List.zipWith_map_left]
theorem Zbn {f:Int -> Int -> Int} (hf:∀ x y,0 <= x /\ x < 256 -> 0 <= y /\ y < 256 -> 0 <= f x y /\ f x y < 256):∀ {a b:List Int},Octs a -> Octs b -> Octs (List.zipWith f a b)
  | [],_,_,_=>by intro x hx; simp at hx
  | _ :: _,[],_,_=>by intro x hx; simp at hx
  | x :: a,y :: b,ha,hb=>by
    refine e0a1 ha.cons fun hx ha=>?_
    refine e0a1 hb.cons fun hy hb=>?_
    rw [List.zipWith_cons_cons]
    intro z hz
    rcases List.mem_cons.mp hz with rfl | hz
    . exact hf _ _ hx hy
    . exact Zbn hf ha hb z hz
end
section
theorem Zg9 {α:Type} {l:List α} {n:Nat} (h:n <= l.length):pick l none (some (n:Int)) = l.take n:=by
  unfold pick kms_lo kms_hi
  have:¬ ((n:Int) < 0):=by lia
  simp only [this,if_false,List.drop_zero,Int.toNat_natCast,Nat.sub_zero,Nat.min_eq_left h]
theorem Zha {α:Type} {l:List α} {n:Nat} (h:n <= l.length):pick l (some (n:Int)) none = l.drop n:=by
  unfold pick kms_lo kms_hi
  have:¬ ((n:Int) < 0):=by lia
  simp only [this,if_false,Int.toNat_natCast,Nat.min_eq_left h]
  rw [List.take_of_length_le (by rw [List.length_drop]; lia)]
theorem Zfu {α:Type} {l:List α} {a m:Nat} (h:a + m <= l.length):pick l (some (a:Int)) (some ((a:Int) + (m:Int))) = (l.drop a).take m:=by
  unfold pick kms_lo kms_hi
  have h1:¬ ((a:Int) < 0):=by lia
  have h2:¬ ((a:Int) + (m:Int) < 0):=by lia
  have h3:((a:Int) + (m:Int)).toNat = a + m:=by lia
  simp only [h1,h2,if_false,Int.toNat_natCast,h3,Nat.min_eq_left h,Nat.min_eq_left (show a <= l.length by lia),Nat.add_sub_cancel_left]
theorem ZaT {xs:List Int} {s j:Nat} (h:s + j < xs.length):Zb ((xs.drop s).take (j + 1)) = Zb ((xs.drop s).take j) + 256 ^ j * xs.getD (s + j) 0:=by
  have hj:j < (xs.drop s).length:=by rw [List.length_drop]; lia
  rw [List.take_succ_eq_append_getElem hj,ZI,List.length_take,Nat.min_eq_left (Nat.le_of_lt hj),Zl,ZR,List.getElem_drop,List.getD_eq_getElem?_getD,List.getElem?_eq_getElem h]; simp
theorem Zgh {ad:Bool} {a b:List Int} {s:Nat}:∀ j,s + j <= a.length -> s + j <= b.length ->
    Zb (ZY ad a b s j) + 256 ^ j * cin ad a b s j = Zb ((a.drop s).take j) + (if ad = true then Zb ((b.drop s).take j) else -Zb ((b.drop s).take j)):=by
  intro j
  induction j with
  | zero=>intro _ _; cases ad <;> simp [ZY,Zox,ZR]
  | succ j ih'=>
    intro h1 h2
    have ih:=ih' (by lia) (by lia)
    rw [ZbP,ZI,Zap,Zl,ZR,ZaT (by lia),ZaT (by lia),Zoy]
    have hd:=Int.emod_add_mul_ediv (tot ad a b (cin ad a b s j) (s + j)) 256
    have e:256 ^ j * (tot ad a b (cin ad a b s j) (s + j) % 256 + 256 * 0) + 256 ^ (j + 1) * (tot ad a b (cin ad a b s j) (s + j) / 256) = 256 ^ j * tot ad a b (cin ad a b s j) (s + j):=by
      rw [Int.pow_succ,Int.mul_assoc,<- Int.mul_add,Int.mul_zero,Int.add_zero,hd]
    have e2:tot ad a b (cin ad a b s j) (s + j) = a.getD (s + j) 0 + cin ad a b s j + (if ad = true then b.getD (s + j) 0 else -(b.getD (s + j) 0)):=rfl
    rw [e2] at e
    have e3:(256:Int) ^ j * (a.getD (s + j) 0 + cin ad a b s j + (if ad = true then b.getD (s + j) 0 else -(b.getD (s + j) 0))) = 256 ^ j * a.getD (s + j) 0 + 256 ^ j * cin ad a b s j + (if ad = true then 256 ^ j * b.getD (s + j) 0 else -(256 ^ j * b.getD (s + j) 0)):=by
      rw [Int.mul_add,Int.mul_add]
      cases ad
      . simp [Int.mul_neg]
      . simp
    rw [e3] at e
    rw [e2]
    cases ad <;> simp only [if_true,Bool.false_eq_true,if_false] at * <;> lia
theorem ZbQ {ad:Bool} {a b:List Int} {s j:Nat}:Octs (ZY ad a b s j):=Octs.map fun i _=>⟨Int.emod_nonneg _ (by decide),Int.emod_lt_of_pos _ (by decide)⟩
theorem ZbS {ad:Bool} {a b:List Int} {m:Nat}:∀ n,Octs (ZZ ad a b m n)
  | 0=>by intro x hx; simp [ZZ] at hx
  | n + 1=>by rw [ZaY]; exact (ZbS n).app ZbQ
theorem ZbU {a b:List Int} {m:Nat}:∀ n,Octs (ZM a b m n)
  | 0=>by intro x hx; simp [ZM] at hx
  | n + 1=>by
    rw [ZaZ]
    refine (ZbU n).app (Octs.rep ?_ ?_) <;> · unfold ZcL; split <;> decide
theorem Zji {ad:Bool} {a b:List Int} {s m:Nat} (h1:s + m <= a.length) (h2:s + m <= b.length) :
    Zb (ZY ad a b s m) = (Zb ((a.drop s).take m) + (if ad = true then Zb ((b.drop s).take m) else -Zb ((b.drop s).take m))) % 256 ^ m:=by
  have h:=Zgh (ad:=ad) (a:=a) (b:=b) (s:=s) m h1 h2
  have hb:=Zq (ZbQ (ad:=ad) (a:=a) (b:=b) (s:=s) (j:=m))
  rw [Zap] at hb
  rw [<- h,Int.add_mul_emod_self_left]
  exact (Int.emod_eq_of_lt hb.1 hb.2).symm
theorem Zhw {a:List Int} {m i:Nat} (ha:Octs a) (h:i * m + m <= a.length):Zd3 (Zb a) (8 * (m:Int)) i = Zb ((a.drop (i * m)).take m):=by
  unfold Zd3
  have e1:(0 + (i:Int) * (8 * (m:Int))).toNat = 8 * (i * m):=by
    have:(i:Int) * (8 * (m:Int)) = 8 * ((i * m:Nat):Int):=by rw [Int.natCast_mul,Int.mul_left_comm]
    lia
  have e2:(8 * (m:Int)).toNat = 8 * m:=by lia
  rw [e1,e2,Zbc,Zbc,Int.fdiv_eq_ediv_of_nonneg _ (Int.le_of_lt (p256 _)),<- ZbA ha _ (by lia),ZcP (ha.drop _) _ (by rw [List.length_drop]; lia)]
theorem ZcY {m:Nat} {seg:Nat -> List Int} {xs:List Int}:∀ n,(∀ i,i < n -> (seg i).length = m) -> (∀ i,i < n -> Zb (seg i) = xs.getD i 0) ->
    Zb ((List.range n).flatMap seg) = ZaK (8 * (m:Int)) xs n /\ ((List.range n).flatMap seg).length = n * m
  | 0,_,_=>⟨ZR,(Nat.zero_mul _).symm⟩
  | n + 1,hl,hw=>by
    refine e0a1 (ZcY (m:=m) (seg:=seg) (xs:=xs) n (fun i hi=>hl i (by lia)) (fun i hi=>hw i (by lia))) fun ih il=>?_
    have e1:((n:Int) * (8 * (m:Int))).toNat = 8 * (n * m):=by
      have:(n:Int) * (8 * (m:Int)) = 8 * ((n * m:Nat):Int):=by rw [Int.natCast_mul,Int.mul_left_comm]
      lia
    rw [List.range_succ,List.flatMap_append,ZI,ih,il]
    simp only [List.flatMap_cons,List.flatMap_nil,List.append_nil]
    refine ⟨?_,?_⟩
    . rw [hw n (by lia),Zhy,e1,Zbc,Int.mul_comm (xs.getD n 0)]
    . rw [List.length_append,il,hl n (by lia),Nat.succ_mul]
theorem ZkZ {f:Int -> Int -> Int} {a b:List Int} {i:Nat} (h1:i < a.length) (h2:i < b.length):(List.zipWith f a b).getD i 0 = f (a.getD i 0) (b.getD i 0):=by
  have h3:i < (List.zipWith f a b).length:=by rw [List.length_zipWith]; lia
  rw [List.getD_eq_getElem?_getD,List.getElem?_eq_getElem h3,List.getElem_zipWith,List.getD_eq_getElem?_getD,List.getD_eq_getElem?_getD,List.getElem?_eq_getElem h1,List.getElem?_eq_getElem h2]; rfl
theorem Zd0 {w size:Int} {n i:Nat} (h:i < n):(ZW w size n).getD i 0 = Zd3 w size i:=by
  unfold ZW
  simp [List.getD_eq_getElem?_getD,h]
theorem ZfE {name:Str} {a b:List Int} {m n:Nat} {seg:Nat -> List Int} (ha:Octs a) (hb:Octs b) (h1:a.length = 16) (h2:b.length = 16) (hmn:n * m = 16) (hl:∀ i,i < n -> (seg i).length = m)
    (hw:∀ i,i < n -> Zb (seg i) = ZX (ZD name) (Zb ((a.drop (i * m)).take m)) (Zb ((b.drop (i * m)).take m)) (8 * (m:Int))) :
    ZaD name (Zb a) (Zb b) (8 * (m:Int)) n = Zb ((List.range n).flatMap seg):=by
  unfold ZaD
  refine (ZcY n hl fun i hi=>?_).1.symm
  have hin:i * m + m <= 16:=by
    have:(i + 1) * m <= n * m:=Nat.mul_le_mul_right m hi
    rw [Nat.succ_mul] at this; lia
  rw [hw i hi,ZkZ (by simp [ZW,hi]) (by simp [ZW,hi]),Zd0 hi,Zd0 hi,Zhw ha (by lia),Zhw hb (by lia)]
theorem Zd1 {name:Str} {a b:List Int} {m n:Nat} {ad:Bool} (ha:Octs a) (hb:Octs b) (h1:a.length = 16) (h2:b.length = 16) (hmn:n * m = 16) (hs:(ZD name == "padd") = ad) (hs2:ad = false → (ZD name == "psub") = true) :
    ZaD name (Zb a) (Zb b) (8 * (m:Int)) n = Zb (ZZ ad a b m n):=by
  refine ZfE ha hb h1 h2 hmn (fun i _=>Zap) fun i hi=>?_
  have hin:i * m + m <= 16:=by
    have:(i + 1) * m <= n * m:=Nat.mul_le_mul_right m hi
    rw [Nat.succ_mul] at this; lia
  have e2:(8 * (m:Int)).toNat = 8 * m:=by lia
  rw [Zji (by lia) (by lia)]
  unfold ZX
  rw [e2,Zbc]
  cases ad with
  | true=>rw [if_pos hs]; simp
  | false=>
    have hn:¬ ((ZD name == "padd") = true):=by rw [hs]; decide
    rw [if_neg hn,if_pos (hs2 rfl),Int.sub_eq_add_neg]; rfl
theorem ZdO:∀ {a b:List Int},Octs a -> Octs b -> a.length = b.length -> Zb a = Zb b -> a = b
  | [],[],_,_,_,_=>rfl
  | x :: a,y :: b,ha,hb,hl,h=>by
    refine e0a1 ha.cons fun hx ha2=>?_
    refine e0a1 hb.cons fun hy hb2=>?_
    rw [Zl,Zl] at h
    have e1:x = y:=by lia
    have e2:a = b:=ZdO ha2 hb2 (by simpa using hl) (by lia)
    rw [e1,e2]
theorem ZcQ:∀ m:Nat,Zb (List.replicate m 255) = 256 ^ m - 1
  | 0=>rfl
  | m + 1=>by rw [List.replicate_succ,Zl,ZcQ,Int.pow_succ]; lia
theorem Zd2 {name:Str} {a b:List Int} {m n:Nat} (ha:Octs a) (hb:Octs b) (h1:a.length = 16) (h2:b.length = 16) (hmn:n * m = 16) (hs:(ZD name == "padd") = false) (hs2:(ZD name == "psub") = false) :
    ZaD name (Zb a) (Zb b) (8 * (m:Int)) n = Zb (ZM a b m n):=by
  refine ZfE ha hb h1 h2 hmn (fun i _=>List.length_replicate) fun i hi=>?_
  have hin:i * m + m <= 16:=by
    have:(i + 1) * m <= n * m:=Nat.mul_le_mul_right m hi
    rw [Nat.succ_mul] at this; lia
  have e2:(8 * (m:Int)).toNat = 8 * m:=by lia
  unfold ZX ZcL
  have n1:¬ ((ZD name == "padd") = true):=by rw [hs]; decide
  have n2:¬ ((ZD name == "psub") = true):=by rw [hs2]; decide
  rw [if_neg n1,if_neg n2,e2,Zbc,Zfu (by lia),Zfu (by lia)]
  by_cases q:(a.drop (i * m)).take m = (b.drop (i * m)).take m
  . rw [if_pos (by simpa using q),if_pos (by simp [q]),ZcQ]; lia
  . have:¬ Zb ((a.drop (i * m)).take m) = Zb ((b.drop (i * m)).take m):=fun h=>q (ZdO ((ha.drop _).take _) ((hb.drop _).take _) (by simp only [List.length_take,List.length_drop]; lia) h)
    rw [if_neg (by simpa using q),if_neg (by simpa using this),Zbg]
end
section
noncomputable def Zgi (nm:Str):Bool:=(["pxor", "xorps"]:List Str).any (· == nm)
noncomputable def isOr (nm:Str):Bool:=(["por", "orps"]:List Str).any (· == nm)
noncomputable def Zgk (nm:Str):Bool:=(["pand", "andps"]:List Str).any (· == nm)
noncomputable def Zd6 (nm:Str):Bool:=nm == "pandn"
noncomputable def ZaF (nm:Str):Bool:=Txt.slice nm none (some 3) == "mov"
noncomputable def Zgj (nm:Str):Bool:=Txt.slice nm none (some 6) == "pcmpeq"
noncomputable def Zhz (nm:Str):Bool:=Txt.slice nm none (some 4) == "padd"
noncomputable def isSs (nm:Str):Bool:=(["movss", "movsd"]:List Str).any (· == nm)
noncomputable def ZaE (nm:Str):Nat:=if (Z2 nm == 8) = true then 1 else if (Z2 nm == 16) = true then 2 else if (Z2 nm == 32) = true then 4 else 8
noncomputable def Zb0 (nm:Str):Nat:=16 / ZaE nm
noncomputable def ZbT (nm:Str) (a b:List Int):List Int:=
  if Zgi nm = true then List.zipWith Builtin.bitXor a b else if isOr nm = true then List.zipWith Builtin.bitOr a b else if Zgk nm = true then List.zipWith Builtin.bitAnd a b
  else if Zd6 nm = true then List.zipWith (fun a b=>Builtin.bitAnd (255 - a) b) a b else if Zgj nm = true then ZM a b (ZaE nm) (Zb0 nm) else ZZ (Zhz nm) a b (ZaE nm) (Zb0 nm)
theorem f_bits:∀ nm ∈ NAMES,(nm == "pxor" || (nm == "xorps" || false)) = Zgi nm ∧ (nm == "por" || (nm == "orps" || false)) = isOr nm ∧ (BITS.any (· == nm)) = (Zgi nm || isOr nm || Zgk nm || Zd6 nm):=by decide +kernel
theorem Zdu:∀ nm ∈ NAMES,ZaF nm = false → (WHOLE.any (· == nm)) = false ∧ Zaf nm = 0 ∧ Zg nm = (["xx", "xm"]:List Str) ∧ Zi nm = 128 ∧ (LALIGNED.any (· == nm)) = true ∧ Zag nm ≤ 1000 ∧ ((BITS.any (· == nm)) = true → Z2 nm = 0):=by decide +kernel
theorem ZfK:∀ nm ∈ NAMES,ZaF nm = false -> (BITS.any (· == nm)) = false -> Z2 nm = 8 * (ZaE nm:Int) /\ (ZaE nm = 1 ∨ ZaE nm = 2 ∨ ZaE nm = 4 ∨ ZaE nm = 8) /\ Zea (ZfD nm) D4 = some (ZaE nm:Int) /\
    (Zgj nm = false → (ZD nm == "padd") = Zhz nm ∧ (Zhz nm = false → (ZD nm == "psub") = true)) ∧ (Zgj nm = true → (ZD nm == "padd") = false ∧ (ZD nm == "psub") = false):=by decide +kernel
theorem ZhG:∀ nm ∈ NAMES,ZaF nm = true -> ((WHOLE.any (· == nm)) = true /\ Zi nm = 128 /\ isSs nm = false /\ (LALIGNED.any (· == nm)) = (ALIGNED.any (· == nm))) ∨ ((WHOLE.any (· == nm)) = false /\ Zaf nm = Zi nm /\ (Zi nm = 32 ∨ Zi nm = 64) /\ (LALIGNED.any (· == nm)) = false):=by decide +kernel
theorem f_ss:∀ nm ∈ NAMES,(nm == "movss" || (nm == "movsd" || false)) = isSs nm:=by decide +kernel
theorem Zdt:∀ nm ∈ NAMES,∀ w ∈ Zg nm,(Txt.contains w "m" = (Txt.item w 0 == "m" || Txt.item w 1 == "m")) ∧ ((w == "xx") = (Txt.item w 0 == "x" && Txt.item w 1 == "x")) ∧ (Txt.item w 0 = "x" ∨ Txt.item w 0 = "m" ∨ Txt.item w 0 = "g") ∧ (Txt.item w 1 = "x" ∨ Txt.item w 1 = "m" ∨ Txt.item w 1 = "g") ∧ (Txt.item w 0 = "x" ∨ Txt.item w 1 = "x"):=by decide +kernel
structure Inv (l:LS) (n:Nat):Prop where
  r16:l.rows.length = 16
  rl:∀ r ∈ l.rows,r.length = 16
  ro:∀ r ∈ l.rows,Octs r
  w16:l.whole.length = 16
  wb:∀ w ∈ l.whole,0 <= w /\ w < 2 ^ 64
  w3:l.whole.getD 3 0 = 8192
  w13:l.whole.getD 13 0 = 12288
  ho:Oct l.held
  hl:l.held.length <= 80 + 16 * n
  hS:l.S = ⟨l.whole,l.rows.map Zb,l.held⟩
theorem Zbr {α:Type} {l:List α} {d:α} {i:Nat} (h:i < l.length):l.getD i d ∈ l:=by
  rw [List.getD_eq_getElem?_getD,List.getElem?_eq_getElem h]; exact List.getElem_mem _
section
variable {l:LS} {n:Nat}
theorem Inv.good (I:Inv l n) (hn:n <= 8):Good l.S:=by
  rw [I.hS]
  exact ⟨I.w16,by show (l.rows.map Zb).length = 16; rw [List.length_map,I.r16],I.ho,by have:=I.hl; show l.held.length <= 800; lia⟩
theorem Inv.row (I:Inv l n) {i:Nat} (h:i < 16):(l.rows.getD i []).length = 16 /\ Octs (l.rows.getD i []):=
  ⟨I.rl _ (Zbr (by rw [I.r16]; exact h)),I.ro _ (Zbr (by rw [I.r16]; exact h))⟩
theorem Inv.xmm (I:Inv l n) {i:Nat} (h:i < 16):l.S.xmm.getD i 0 = Zb (l.rows.getD i []):=by
  rw [I.hS]
  show (l.rows.map Zb).getD i 0 = _
  have h2:i < l.rows.length:=by rw [I.r16]; exact h
  simp [List.getD_eq_getElem?_getD,List.getElem?_eq_getElem h2]
theorem Inv.reg (I:Inv l n) {i:Nat} (h:i < 16):l.S.regs.getD i 0 = l.whole.getD i 0 /\ 0 <= l.whole.getD i 0 /\ l.whole.getD i 0 < 2 ^ 64:=by
  rw [I.hS]
  exact ⟨rfl,I.wb _ (Zbr (by rw [I.w16]; exact h))⟩
theorem ZhJ (c:Int):-16 <= Zab c /\ Zab c <= 1000:=by
  have:∀ x ∈ MORE,-16 <= x /\ x <= 1000:=by decide
  exact this _ (Zbr (by show _ < 7; lia))
theorem Inv.base (I:Inv l n) (c:Int):ZS c < 16 /\ 8192 <= l.whole.getD (ZS c) 0 /\ l.whole.getD (ZS c) 0 <= 12288:=by
  rcases Zb5 c with h | h
  . rw [h]; have:=I.w3; lia
  . rw [h]; have:=I.w13; lia
theorem Inv.at (I:Inv l n) (c:Int):8176 <= atOf l c /\ atOf l c <= 13288:=by
  have h1:=I.base c; have h2:=ZhJ c
  unfold atOf; exact ⟨Int.add_le_add h1.2.1 h2.1,Int.add_le_add h1.2.2 h2.2⟩
theorem Inv.place (I:Inv l n) (c:Int):Z3 l.S (ZS c) (Zab c) = atOf l c:=by
  have h1:=I.base c; have h2:=ZhJ c
  have h3:=(I.reg h1.1).1
  unfold Z3 atOf
  rw [h3,show (64:Int).toNat = 64 from rfl]
  exact modm h1.2 h2
theorem Zci (c:Int):Zi (Zc c) = 8 * (Zt c:Int) /\ (Zt c = 4 ∨ Zt c = 8 ∨ Zt c = 16):=by
  unfold Zt
  have:=bt (Zb6 _ (Zn c))
  exact ⟨this.1,this.2.1⟩
theorem Zb7 (c:Int):(Zi (Zc c)).toNat = 8 * Zt c /\ (Zi (Zc c)).toNat / 8 = Zt c:=by
  unfold Zt; exact (bt (Zb6 _ (Zn c))).2.2.2.1
theorem ZlC (m:Nat):gnum m ≠ 3 /\ gnum m ≠ 13:=by
  unfold gnum
  have:m % 5 < 5:=Nat.mod_lt _ (by decide)
  generalize m % 5 = j at this
  have:j = 0 ∨ j = 1 ∨ j = 2 ∨ j = 3 ∨ j = 4:=by lia
  rcases this with rfl | rfl | rfl | rfl | rfl <;> decide
end
theorem sxx:(("x" : Str) == "x") = true:=by decide
theorem sxm:¬ ((("x" : Str) == "m") = true):=by decide
theorem sxg:¬ ((("x" : Str) == "g") = true):=by decide
theorem smm:(("m" : Str) == "m") = true:=by decide
theorem smx:¬ ((("m" : Str) == "x") = true):=by decide
theorem sgg:(("g" : Str) == "g") = true:=by decide
theorem sgx:¬ ((("g" : Str) == "x") = true):=by decide
theorem sgm:¬ ((("g" : Str) == "m") = true):=by decide
theorem ZdX {c:Int} (h:Txt.item (dWay c) 0 = "x"):opA c = .x (dOne c) (ZiN (dOne c)):=by unfold opA ZV; rw [h,if_neg sxm,if_neg sxg]
theorem Zhf {c:Int} (h:Txt.item (dWay c) 0 = "m"):opA c = memO c:=by unfold opA ZV; rw [h,if_pos smm]
theorem Zhg {c:Int} (h:Txt.item (dWay c) 0 = "g"):opA c = .g (gnum (dOne c)) (ZeV (gnum (dOne c)) (Zi (Zc c))) (Zi (Zc c)):=by unfold opA ZV; rw [h,if_neg sgm,if_pos sgg]
theorem Zgc {c:Int} (h:Txt.item (dWay c) 1 = "x"):opB c = .x (Zm c) (ZiN (Zm c)):=by unfold opB ZV; rw [h,if_neg sxm,if_neg sxg]
theorem Zhe {c:Int} (h:Txt.item (dWay c) 1 = "m"):opB c = memO c:=by unfold opB ZV; rw [h,if_pos smm]
theorem ZiZ {c:Int} (h:Txt.item (dWay c) 1 = "g"):opB c = .g (gnum (Zm c)) (ZeV (gnum (Zm c)) (Zi (Zc c))) (Zi (Zc c)):=by unfold opB ZV; rw [h,if_neg sgm,if_pos sgg]
section
variable {l:LS} {n:Nat}
theorem Zbo (I:Inv l n) (c:Int):rdO l.S (Zi (Zc c)) (opB c) = Zb (ZC l c) /\ Octs (ZC l c) /\ (ZC l c).length = Zt c:=by
  have hw:=Zdt _ (Zn c) _ (Zx c)
  have hml:=ZaC c
  refine e0a1 (Zb7 c) fun eb eb2=>?_
  have ho:=Zbs c
  unfold ZC
  rcases hw.2.2.2.1 with h | h | h
  . rw [Zgc h,h,if_pos sxx]
    refine e0a1 (I.row ho) fun h1 h2=>?_
    rw [Zg9 (by lia)]
    refine ⟨?_,h2.take _,by rw [List.length_take]; lia⟩
    show l.S.xmm.getD (Zm c) 0 % 2 ^ (Zi (Zc c)).toNat = _
    rw [I.xmm ho,eb,Zbc,ZcP h2 _ (by lia)]
  . rw [Zhe h,h,if_neg smx,if_pos smm]
    have hA:=I.at c
    refine ⟨?_,Octs.map fun i _=>Oct.get I.ho,by simp⟩
    show ZbZ l.S.mem (Z3 l.S (ZS c) (Zab c)) ((Zi (Zc c)).toNat / 8) = _
    rw [I.place c,eb2,rdA (by lia) (by lia),I.hS]
  . rw [ZiZ h,h,if_neg sgx,if_neg sgm]
    have hg:=Zbi (Zm c)
    refine ⟨?_,Zhh _ _,Zfy _ _⟩
    show l.S.regs.getD (gnum (Zm c)) 0 % 2 ^ (Zi (Zc c)).toNat % 2 ^ (Zi (Zc c)).toNat = _
    rw [(I.reg hg).1,eb,Zbc,Int.emod_emod,ZcR]
end
end
section
theorem ZlE {nm:Str} {a b:List Int} (hn:nm ∈ NAMES) (hm:ZaF nm = false) (ha:Octs a) (hb:Octs b) (h1:a.length = 16) (h2:b.length = 16) :
    Octs (ZbT nm a b) /\ (ZbT nm a b).length = 16 /\ ((BITS.any (· == nm)) = true -> Zb (ZbT nm a b) = Zas nm (Zb a) (Zb b)) /\ ((BITS.any (· == nm)) = false -> Zb (ZbT nm a b) = ZaD nm (Zb a) (Zb b) (8 * (ZaE nm:Int)) (Zb0 nm)):=by
  refine e0a2 (f_bits nm hn) fun q1 q2 q3=>?_
  have hl:=ZfK nm hn hm
  unfold ZbT Zas
  rw [q1,q2,q3]
  by_cases x1:Zgi nm = true
  . rw [if_pos x1,if_pos x1]
    exact ⟨Zbn (fun _ _=>ZgP) ha hb,by rw [List.length_zipWith]; lia,fun _=>Zcb ha hb (by lia),fun h=>by rw [x1] at h; simp at h⟩
  . rw [if_neg x1,if_neg x1]
    by_cases x2:isOr nm = true
    . rw [if_pos x2,if_pos x2]
      exact ⟨Zbn (fun _ _=>Zfx) ha hb,by rw [List.length_zipWith]; lia,fun _=>Zfo ha hb (by lia),fun h=>by rw [x2] at h; simp at h⟩
    . rw [if_neg x2,if_neg x2]
      by_cases x3:Zgk nm = true
      . have x4:¬ ((nm == "pandn") = true):=by
          have:∀ nm ∈ NAMES,Zgk nm = true → (nm == "pandn") = false:=by decide +kernel
          rw [this nm hn x3]; decide
        rw [if_pos x3,if_neg x4]
        exact ⟨Zbn (fun _ _=>Zcw) ha hb,by rw [List.length_zipWith]; lia,fun _=>Zce ha hb (by lia),fun h=>by rw [x3] at h; simp at h⟩
      . rw [if_neg x3]
        by_cases x4:Zd6 nm = true
        . rw [if_pos x4,if_pos (show (nm == "pandn") = true from x4)]
          exact ⟨Zbn (fun x y hx hy=>Zcw (by lia) hy) ha hb,by rw [List.length_zipWith]; lia,fun _=>Zf6 ha hb h1 h2,fun h=>by rw [x4] at h; simp at h⟩
        . have hB:(BITS.any (· == nm)) = false:=by rw [q3]; simp at x1 x2 x3 x4; rw [x1,x2,x3,x4]; rfl
          refine e0a4 (hl hB) fun _ g2 _ g4 g5=>?_
          have hmn:Zb0 nm * ZaE nm = 16:=by unfold Zb0; rcases g2 with e | e | e | e <;> rw [e]
          rw [if_neg x4]
          by_cases x5:Zgj nm = true
          . rw [if_pos x5]
            refine e0a1 (g5 x5) fun p1 p2=>?_
            refine ⟨ZbU _,by rw [Zbk]; lia,fun h=>?_,fun _=>(Zd2 ha hb h1 h2 hmn p1 p2).symm⟩
            rw [<- q3,hB] at h; exact ft h
          . rw [if_neg x5]
            refine e0a1 (g4 (by simpa using x5)) fun p1 p2=>?_
            refine ⟨ZbS _,by rw [Zbj]; lia,fun h=>?_,fun _=>(Zd1 ha hb h1 h2 hmn p1 p2).symm⟩
            rw [<- q3,hB] at h; exact ft h
noncomputable def ZcJ (l:LS) (c A:Int) (t d:List Int):LS:=
  if (Txt.item (dWay c) 0 == "m") = true then ⟨l.at_,l.seed,l.S,l.rows,l.whole,wrH A t l.held (Zt c)⟩
  else if (Txt.item (dWay c) 0 == "g") = true then ⟨l.at_,l.seed,l.S,l.rows,l.whole.set (gnum (dOne c)) (Zb t),l.held⟩
  else if (Txt.slice (Zc c) none (some 3) != "mov") = true then ⟨l.at_,l.seed,l.S,l.rows.set (dOne c) d,l.whole,l.held⟩
  else if ((["movss", "movsd"]:List Str).any (· == Zc c) && (dWay c == "xx" && true)) = true then ⟨l.at_,l.seed,l.S,l.rows.set (dOne c) (t ++ pick (l.rows.getD (dOne c) []) (some (Zt c:Int)) none),l.whole,l.held⟩
  else ⟨l.at_,l.seed,l.S,l.rows.set (dOne c) (t ++ List.replicate (16 - Zt c) 0),l.whole,l.held⟩
noncomputable def Zgm (l:LS) (c:Int):List Int:=ZbT (Zc c) (l.rows.getD (dOne c) []) (ZC l c)
noncomputable def upd (l:LS) (c:Int):LS:=ZcJ l c (atOf l c) (ZC l c) (Zgm l c)
noncomputable def nxtS (l:LS) (c:Int):MS:=⟨(upd l c).whole,(upd l c).rows.map Zb,(upd l c).held⟩
noncomputable def nxt (l:LS) (c:Int):LS:=⟨some (.int (atOf l c)),l.seed,nxtS l c,(upd l c).rows,(upd l c).whole,(upd l c).held⟩
noncomputable def Zk5 (l:LS) (c:Int):LS:=⟨some (.int (atOf l c)),l.seed,l.S,l.rows,l.whole,l.held⟩
noncomputable def step (l:LS) (c:Int):LS:=if Zak c (atOf l c) = true then Zk5 l c else nxt l c
theorem movx {c:Int}:(Txt.slice (Zc c) none (some 3) != "mov") = !(ZaF (Zc c)):=rfl
theorem ZiS {rows:List (List Int)} {i:Nat} {r:List Int}:(rows.set i r).map Zb = (rows.map Zb).set i (Zb r):=List.map_set
section
variable {l:LS} {n:Nat}
theorem Inv.setRow (I:Inv l n) {i:Nat} {r:List Int} (hr:r.length = 16) (ho:Octs r) {at_:Option PV}:Inv ⟨at_,l.seed,⟨l.whole,(l.rows.set i r).map Zb,l.held⟩,l.rows.set i r,l.whole,l.held⟩ (n + 1):=
  ⟨by simp [I.r16],fun x hx=>by
      rcases List.mem_or_eq_of_mem_set hx with hx | rfl
      . exact I.rl x hx
      . exact hr,fun x hx=>by
      rcases List.mem_or_eq_of_mem_set hx with hx | rfl
      . exact I.ro x hx
      . exact ho,I.w16,I.wb,I.w3,I.w13,I.ho,by have:=I.hl; show l.held.length <= _; lia,rfl⟩
theorem Inv.parts (I:Inv l n):l.S.regs = l.whole /\ l.S.xmm = l.rows.map Zb /\ l.S.mem = l.held:=by rw [I.hS]; exact ⟨rfl,rfl,rfl⟩
theorem Zc2:∀ nm ∈ NAMES,∀ w ∈ Zg nm,(ZaF nm = false → Txt.item w 0 = "x") ∧ (Txt.item w 0 = "g" → (WHOLE.any (· == nm)) = false):=by decide +kernel
theorem p64 {m:Nat} (h:m <= 8):(256:Int) ^ m <= 2 ^ 64:=by
  have:(256:Nat) ^ m <= 256 ^ 8:=Nat.pow_le_pow_right (by decide) h
  exact_mod_cast this
theorem p128 {m:Nat} (h:m <= 16):(256:Int) ^ m <= 2 ^ 128:=by
  have:(256:Nat) ^ m <= 256 ^ 16:=Nat.pow_le_pow_right (by decide) h
  exact_mod_cast this
theorem Zla (I:Inv l n) {i:Nat} {r:List Int} {w:Int} (hw:w = Zb r):(⟨l.S.regs,l.S.xmm.set i w,l.S.mem⟩:MS) = ⟨l.whole,(l.rows.set i r).map Zb,l.held⟩:=by
  refine e0a2 I.parts fun h1 h2 h3=>?_
  rw [h1,h2,h3,hw,ZiS]
theorem Zhj {w:Int} {m:Nat} (h0:0 <= w) (h1:w < 256 ^ m) (hm:m <= 16):w % 2 ^ (128:Int).toNat = w:=Int.emod_eq_of_lt h0 (Int.lt_of_lt_of_le h1 (p128 hm))
theorem ZeH {t:List Int} {m:Nat}:Zb (t ++ List.replicate m 0) = Zb t:=by rw [ZI,Zbg]; simp
theorem Zhx {old w P:Int} (hw:0 <= w) (hw2:w < P):old - old % P + w % P = w + P * (old / P):=by
  rw [Int.emod_eq_of_lt hw hw2]
  have:=Int.emod_add_mul_ediv old P
  lia
theorem Zkh (I:Inv l n) (c:Int) (h:Txt.item (dWay c) 0 = "m"):Inv (nxt l c) (n + 1) ∧
    ((WHOLE.any (· == Zc c)) = true -> Z8 l.S (opA c) (opB c) = nxtS l c) /\ ((WHOLE.any (· == Zc c)) = false -> Z9 l.S (Zc c) (opA c) (opB c) (Zi (Zc c)) = nxtS l c) /\ ZaF (Zc c) = true:=by
  have hN:=Zn c
  refine e0a2 (Zbo I c) fun t1 t2 t3=>?_
  refine e0a1 (Zb7 c) fun eb eb2=>?_
  have hA:=I.at c
  have hml:=ZaC c
  have hm:ZaF (Zc c) = true:=by
    cases q:ZaF (Zc c)
    . have:=(Zc2 _ hN _ (Zx c)).1 q
      rw [h] at this; exact absurd this (by decide)
    . rfl
  have hu:upd l c = ⟨l.at_,l.seed,l.S,l.rows,l.whole,wrH (atOf l c) (ZC l c) l.held (Zt c)⟩:=by unfold upd ZcJ; rw [h,if_pos smm]
  refine e0a2 I.parts fun h1 h2 h3=>?_
  have hwr:wrO l.S (Zi (Zc c)) (Zb (ZC l c)) (memO c) = nxtS l c:=by
    show (⟨l.S.regs,l.S.xmm,Zaw (Z3 l.S (ZS c) (Zab c)) (Zb (ZC l c)) l.S.mem ((Zi (Zc c)).toNat / 8)⟩:MS) = _
    unfold nxtS
    rw [hu,I.place c,eb2,h1,h2,h3,ZgQ t2 (by lia) (by lia)]
  refine ⟨?_,fun q=>?_,fun q=>?_,hm⟩
  . unfold nxt nxtS; rw [hu]
    exact ⟨I.r16,I.rl,I.ro,I.w16,I.wb,I.w3,I.w13,ZgR t2 I.ho _,by have:=ZeE (atOf l c) (ZC l c) l.held (Zt c); have:=I.hl; show (wrH _ _ _ _).length <= _; lia,rfl⟩
  . unfold Z8
    rcases ZhG _ hN hm with ⟨_,q2,_,_⟩ | ⟨q1,_⟩
    . rw [Zhf h]; rw [q2] at hwr t1; rw [t1]; exact hwr
    . rw [q] at q1; exact tf q1
  . unfold Z9
    rw [Zhf h,if_neg (show ¬ (((memO c).isX && _) = true) by show ¬ ((false && _) = true); simp),t1]; exact hwr
theorem Zki (I:Inv l n) (c:Int) (h:Txt.item (dWay c) 0 = "g"):Inv (nxt l c) (n + 1) ∧
    ((WHOLE.any (· == Zc c)) = true -> Z8 l.S (opA c) (opB c) = nxtS l c) /\ ((WHOLE.any (· == Zc c)) = false -> Z9 l.S (Zc c) (opA c) (opB c) (Zi (Zc c)) = nxtS l c) /\ ZaF (Zc c) = true:=by
  have hN:=Zn c
  refine e0a2 (Zbo I c) fun t1 t2 t3=>?_
  refine e0a1 (Zb7 c) fun eb eb2=>?_
  have hm:ZaF (Zc c) = true:=by
    cases q:ZaF (Zc c)
    . have:=(Zc2 _ hN _ (Zx c)).1 q
      rw [h] at this; exact absurd this (by decide)
    . rfl
  have hbb:=ZlB _ hN _ (Zx c) (by rw [h]; exact sgg)
  have hm8:Zt c <= 8:=by lia
  have hbt:=Zq t2
  rw [t3] at hbt
  have hg:=Zbi (dOne c)
  have hgn:=ZlC (dOne c)
  have hu:upd l c = ⟨l.at_,l.seed,l.S,l.rows,l.whole.set (gnum (dOne c)) (Zb (ZC l c)),l.held⟩:=by unfold upd ZcJ; rw [h,if_neg sgm,if_pos sgg]
  refine e0a2 I.parts fun h1 h2 h3=>?_
  have hwr:wrO l.S (Zi (Zc c)) (Zb (ZC l c)) (opA c) = nxtS l c:=by
    rw [Zhg h]
    show (⟨l.S.regs.set (gnum (dOne c)) (Zb (ZC l c) % 2 ^ (Zi (Zc c)).toNat),l.S.xmm,l.S.mem⟩:MS) = _
    unfold nxtS
    rw [hu,eb,Zbc,Int.emod_eq_of_lt hbt.1 hbt.2,h1,h2,h3]
  refine ⟨?_,fun q=>?_,fun q=>?_,hm⟩
  . unfold nxt nxtS; rw [hu]
    refine ⟨I.r16,I.rl,I.ro,by show (l.whole.set _ _).length = 16; rw [List.length_set,I.w16],fun w hw=>?_,?_,?_,I.ho,by have:=I.hl; show l.held.length <= _; lia,rfl⟩
    . rcases List.mem_or_eq_of_mem_set hw with hw | rfl
      . exact I.wb w hw
      . have:=p64 hm8; lia
    . have:=I.w3
      show (l.whole.set _ _).getD 3 0 = _
      rw [List.getD_eq_getElem?_getD,List.getElem?_set_ne hgn.1,<- List.getD_eq_getElem?_getD]; exact this
    . have:=I.w13
      show (l.whole.set _ _).getD 13 0 = _
      rw [List.getD_eq_getElem?_getD,List.getElem?_set_ne hgn.2,<- List.getD_eq_getElem?_getD]; exact this
  . rw [(Zc2 _ hN _ (Zx c)).2 h] at q; exact ft q
  . unfold Z9
    rw [if_neg (by rw [Zhg h]; show ¬ ((false && _) = true); simp),t1]; exact hwr
theorem ZgS (I:Inv l n) (c:Int) (h:Txt.item (dWay c) 0 = "x") (hm:ZaF (Zc c) = true):Inv (nxt l c) (n + 1) ∧
    ((WHOLE.any (· == Zc c)) = true -> Z8 l.S (opA c) (opB c) = nxtS l c) /\ ((WHOLE.any (· == Zc c)) = false -> Z9 l.S (Zc c) (opA c) (opB c) (Zi (Zc c)) = nxtS l c):=by
  have hN:=Zn c
  refine e0a4 (Zdt _ hN _ (Zx c)) fun w1 w2 w3 w4 w5=>?_
  refine e0a2 (Zbo I c) fun t1 t2 t3=>?_
  refine e0a1 (Zb7 c) fun eb eb2=>?_
  refine e0a1 (Zci c) fun mb mb2=>?_
  have ho:=Za1 c
  have hrow:=I.row ho
  have hx:=I.xmm ho
  have hop:=ZdX h
  have hbt:=Zq t2
  rw [t3] at hbt
  have hss:=f_ss _ hN
  by_cases hs:((["movss", "movsd"]:List Str).any (· == Zc c) && (dWay c == "xx" && true)) = true
  . have hu:upd l c = ⟨l.at_,l.seed,l.S,l.rows.set (dOne c) (ZC l c ++ pick (l.rows.getD (dOne c) []) (some (Zt c:Int)) none),l.whole,l.held⟩:=by
      unfold upd ZcJ; rw [h,if_neg sxm,if_neg sxg,movx,hm,if_neg (by decide),if_pos hs]
    have hpd:pick (l.rows.getD (dOne c) []) (some (Zt c:Int)) none = (l.rows.getD (dOne c) []).drop (Zt c):=Zha (Nat.le_trans (ZaC c) (Nat.le_of_eq hrow.1.symm))
    have hlen:(ZC l c ++ (l.rows.getD (dOne c) []).drop (Zt c)).length = 16:=by rw [List.length_append,t3,List.length_drop,Nat.add_sub_cancel' (Nat.le_trans (ZaC c) (Nat.le_of_eq hrow.1.symm))]; exact hrow.1
    have hIs:isSs (Zc c) = true:=by simp only [Bool.and_eq_true] at hs; exact hs.1
    have hxx:(dWay c == "xx") = true:=by simp only [Bool.and_eq_true] at hs; exact hs.2.1
    have h1x:Txt.item (dWay c) 1 = "x" := by rw [w2] at hxx; simp only [Bool.and_eq_true,beq_iff_eq] at hxx; exact hxx.2
    rcases ZhG _ hN hm with ⟨_,_,q,_⟩ | ⟨q1,q2,q3,q4⟩
    . rw [hIs] at q; exact tf q
    refine ⟨?_,fun q=>?_,fun _=>?_⟩
    . unfold nxt nxtS; rw [hu,hpd]
      exact I.setRow hlen (t2.app (hrow.2.drop _))
    . rw [q] at q1; exact tf q1
    . unfold Z9
      rw [hss,hIs,hop,if_neg (by rw [Zgc h1x]; simp [Op.isX]),t1]
      unfold nxtS
      rw [hu,hpd]
      refine Zla I ?_
      have hlt:Zi (Zc c) < 128:=by rcases q3 with q | q <;> rw [q] <;> decide
      rw [if_pos hlt,eb,Zbc,hx,Zhx hbt.1 hbt.2,ZI,t3,ZbA hrow.2 _ (by lia)]
  . have hu:upd l c = ⟨l.at_,l.seed,l.S,l.rows.set (dOne c) (ZC l c ++ List.replicate (16 - Zt c) 0),l.whole,l.held⟩:=by
      unfold upd ZcJ; rw [h,if_neg sxm,if_neg sxg,movx,hm,if_neg (by decide),if_neg hs]
    have hlen:(ZC l c ++ List.replicate (16 - Zt c) 0).length = 16:=by rw [List.length_append,t3,List.length_replicate]; exact Nat.add_sub_cancel' (ZaC c)
    have hS:(⟨l.S.regs,l.S.xmm.set (dOne c) (Zb (ZC l c) % 2 ^ (128:Int).toNat),l.S.mem⟩:MS) = nxtS l c:=by
      unfold nxtS; rw [hu]
      refine Zla I ?_
      rw [ZeH,Zhj hbt.1 hbt.2 (by lia)]
    refine ⟨?_,fun q=>?_,fun q=>?_⟩
    . unfold nxt nxtS; rw [hu]
      exact I.setRow hlen (t2.app (Octs.rep (by decide) (by decide)))
    . rcases ZhG _ hN hm with ⟨_,q2,_,_⟩ | ⟨q1,_⟩
      . unfold Z8
        rw [q2] at t1
        rw [t1,hop]
        show (⟨l.S.regs,l.S.xmm.set (dOne c) (if (128:Int) < 128 then _ else _),l.S.mem⟩:MS) = _
        rw [if_neg (by decide)]; exact hS
      . rw [q] at q1; exact tf q1
    . unfold Z9
      have hc:((opA c).isX && (!((opB c).isX && ((Zc c == "movss" || (Zc c == "movsd" || false)) && true)) && true)) = true:=by
        rw [hss,hop]
        rcases w4 with q | q | q
        . have hxx:(dWay c == "xx") = true:=by rw [w2,h,q]; decide
          have:isSs (Zc c) = false:=by
            cases z:isSs (Zc c)
            . rfl
            . exfalso; apply hs; rw [hxx]; show (isSs (Zc c) && _) = true; rw [z]; rfl
          rw [this,Zgc q]; simp [Op.isX]
        . rw [Zhe q]; show (true && (!(false && _) && true)) = true; simp
        . rw [ZiZ q]; show (true && (!(false && _) && true)) = true; simp
      rw [if_pos hc,t1,hop]; exact hS
theorem ZgT (I:Inv l n) (c:Int) (hm:ZaF (Zc c) = false):Inv (nxt l c) (n + 1) /\
    ((BITS.any (· == Zc c)) = true -> putX l.S (Zas (Zc c) (rdO l.S 128 (opA c)) (rdO l.S 128 (opB c))) (opA c) = nxtS l c) /\ ((BITS.any (· == Zc c)) = false -> putX l.S (ZaD (Zc c) (rdO l.S 128 (opA c)) (rdO l.S 128 (opB c)) (8 * (ZaE (Zc c):Int)) (Zb0 (Zc c))) (opA c) = nxtS l c):=by
  have hN:=Zn c
  have h:=(Zc2 _ hN _ (Zx c)).1 hm
  refine e0a6 (Zdu _ hN hm) fun f1 f2 f3 f4 f5 f6 f7=>?_
  refine e0a2 (Zbo I c) fun t1 t2 t3=>?_
  refine e0a1 (Zci c) fun mb mb2=>?_
  have hm16:Zt c = 16:=by lia
  rw [hm16] at t3
  have ho:=Za1 c
  have hrow:=I.row ho
  have hx:=I.xmm ho
  have hop:=ZdX h
  rw [f4] at t1
  refine e0a3 (ZlE hN hm hrow.2 t2 hrow.1 t3) fun d1 d2 d3 d4=>?_
  have hbd:=Zq d1
  rw [d2] at hbd
  have hbr:=Zq hrow.2
  rw [hrow.1] at hbr
  have hu:upd l c = ⟨l.at_,l.seed,l.S,l.rows.set (dOne c) (Zgm l c),l.whole,l.held⟩:=by
    unfold upd ZcJ; rw [h,if_neg sxm,if_neg sxg,movx,hm,if_pos (by decide)]
  have hr:rdO l.S 128 (opA c) = Zb (l.rows.getD (dOne c) []):=by
    rw [hop]
    show l.S.xmm.getD (dOne c) 0 % 2 ^ (128:Int).toNat = _
    rw [hx,Zhj hbr.1 hbr.2 (by decide)]
  have hS:putX l.S (Zb (Zgm l c)) (opA c) = nxtS l c:=by
    rw [hop]
    show (⟨l.S.regs,l.S.xmm.set (dOne c) (Zb (Zgm l c) % 2 ^ (128:Int).toNat),l.S.mem⟩:MS) = nxtS l c
    unfold nxtS; rw [hu]
    refine Zla I ?_
    exact Zhj hbd.1 hbd.2 (by decide)
  refine ⟨?_,fun q=>?_,fun q=>?_⟩
  . unfold nxt nxtS; rw [hu]
    exact I.setRow d2 d1
  . rw [hr,t1,<- d3 q]; exact hS
  . rw [hr,t1,<- d4 q]; exact hS
theorem Zjm (I:Inv l n) (c:Int):Inv (step l c) (n + 1):=by
  unfold step
  split
  . exact ⟨I.r16,I.rl,I.ro,I.w16,I.wb,I.w3,I.w13,I.ho,by have:=I.hl; show l.held.length <= _; lia,I.hS⟩
  . cases hm:ZaF (Zc c)
    . exact (ZgT I c hm).1
    . rcases (Zdt _ (Zn c) _ (Zx c)).2.2.1 with h | h | h
      . exact (ZgS I c h hm).1
      . exact (Zkh I c h).1
      . exact (Zki I c h).1
end
end
section
section
variable {C:Cx} {k:Nat} (G:KF C.K) {H:List AObj}
include G
theorem ZnQ {nm:Str} {a b:List Int} (hn:nm ∈ NAMES) (hm:ZaF nm = false) (h1:a.length = 16) (h2:b.length = 16):CallJ C (k + 2) (.ref (ga C.K "_law_done")) [.str nm,.lst (a.map .int),.lst (b.map .int)] H (.lst ((ZbT nm a b).map .int)) H:=by
  have hl:=ZfK nm hn hm
  have hnl:=ZaX _ hn
  have hnl2:nm.length <= 1000:=by lia
  have h12:(16:Nat) <= 1000:=by decide
  unfold ZbT
  by_cases x1:Zgi nm = true
  . rw [if_pos x1]; exact Zgu G h1 h2 h12 x1
  . have y1:Zgi nm = false:=by simpa using x1
    rw [if_neg x1]
    by_cases x2:isOr nm = true
    . rw [if_pos x2]; exact Zh3 G h1 h2 h12 y1 x2
    . have y2:isOr nm = false:=by simpa using x2
      rw [if_neg x2]
      by_cases x3:Zgk nm = true
      . rw [if_pos x3]; exact Zgx G h1 h2 h12 y1 y2 x3
      . have y3:Zgk nm = false:=by simpa using x3
        rw [if_neg x3]
        by_cases x4:Zd6 nm = true
        . rw [if_pos x4]; exact Ze7 G h1 h2 h12 y1 y2 y3 x4
        . have y4:Zd6 nm = false:=by simpa using x4
          have hB:(BITS.any (· == nm)) = false:=by rw [(f_bits nm hn).2.2,y1,y2,y3,y4]; rfl
          refine e0a4 (hl hB) fun _ g2 g3 _ _=>?_
          have q:0 < ZaE nm /\ ZaE nm <= 8 /\ Zb0 nm * ZaE nm = 16 /\ Builtin.Range.small 0 16 (ZaE nm:Int) = true /\ Builtin.Range.rangeSize 0 16 (ZaE nm:Int) = ((Zb0 nm:Nat):Int):=by
            unfold Zb0; rcases g2 with e | e | e | e <;> rw [e] <;> decide
          refine e0a4 q fun q1 q2 q3 q4 q5=>?_
          rw [if_neg x4]
          by_cases x5:Zgj nm = true
          . rw [if_pos x5]; exact Zgw G h1 h2 hnl.1 hnl2 y1 y2 y3 y4 g3 q1 q2 q3 q4 q5 x5
          . have y5:Zgj nm = false:=by simpa using x5
            rw [if_neg x5]; exact Zgv G h1 h2 hnl.1 hnl2 y1 y2 y3 y4 g3 q1 q2 q3 q4 q5 y5 rfl
end
theorem Zko {l:LS} {n:Nat} (I:Inv l n) (c:Int):(memO c).aligned l.S ↔ atOf l c % 16 = 0:=by
  show (Z3 l.S (ZS c) (Zab c)).fmod 16 = 0 ↔ _
  rw [I.place c,Int.fmod_eq_emod_of_nonneg _ (by decide)]
theorem ZcU (c:Int):(opA c).ok:=by
  have hw:=Zdt _ (Zn c) _ (Zx c)
  have:=Za1 c; have hb:=Zb5 c; have hg:=Zbi (dOne c)
  rcases hw.2.2.1 with h | h | h
  . rw [ZdX h]; exact this
  . rw [Zhf h]; show ZS c < 16; lia
  . rw [Zhg h]; have:=ZlB _ (Zn c) _ (Zx c) (by rw [h]; exact sgg); exact ⟨hg,by lia,by lia⟩
theorem ZcT (c:Int):(opB c).ok:=by
  have hw:=Zdt _ (Zn c) _ (Zx c)
  have:=Zbs c; have hb:=Zb5 c; have hg:=Zbi (Zm c)
  rcases hw.2.2.2.1 with h | h | h
  . rw [Zgc h]; exact this
  . rw [Zhe h]; show ZS c < 16; lia
  . rw [ZiZ h]; have:=Znz _ (Zn c) _ (Zx c) (by rw [h]; exact sgg); exact ⟨hg,by lia,by lia⟩
theorem op_x (c:Int):(opA c).isX = true ∨ (opB c).isX = true:=by
  have hw:=Zdt _ (Zn c) _ (Zx c)
  rcases hw.2.2.2.2 with h | h
  . exact .inl (by rw [ZdX h]; rfl)
  . exact .inr (by rw [Zgc h]; rfl)
theorem ZnS {l:LS} {n:Nat} (I:Inv l n) (c:Int) (hL:(LALIGNED.any (· == Zc c)) = true) (hb:Zak c (atOf l c) = false):(opA c).aligned l.S /\ (opB c).aligned l.S:=by
  have hw:=Zdt _ (Zn c) _ (Zx c)
  unfold Zak at hb
  rw [hL,hw.1] at hb
  have key:(Txt.item (dWay c) 0 = "m" ∨ Txt.item (dWay c) 1 = "m") → atOf l c % 16 = 0:=by
    intro h
    have:(Txt.item (dWay c) 0 == "m" || Txt.item (dWay c) 1 == "m") = true:=by
      rcases h with h | h
      . rw [h]; rfl
      . rw [h]; simp
    rw [this] at hb
    simpa using hb
  refine ⟨?_,?_⟩
  . rcases hw.2.2.1 with h | h | h
    . rw [ZdX h]; trivial
    . rw [Zhf h]; exact (Zko I c).mpr (key (.inl h))
    . rw [Zhg h]; trivial
  . rcases hw.2.2.2.1 with h | h | h
    . rw [Zgc h]; trivial
    . rw [Zhe h]; exact (Zko I c).mpr (key (.inr h))
    . rw [ZiZ h]; trivial
section
variable {C:Cx} {k:Nat} (G:KF C.K)
theorem ZlH {l:LS} {n:Nat} {X:List AObj} (G:KF C.K) (I:Inv l n) (hn:n <= 8) (c:Int) (hb:Zak c (atOf l c) = false) (at_:Option PV) :
    CallJ C (k + 10) (.ref (ga C.K "vector_deed")) [.ref 8,ZP C.K (Zc c) ((opA c).pv C.K) ((opB c).pv C.K)] (LG C.K ⟨at_,l.seed,l.S,l.rows,l.whole,l.held⟩ ++ X) (.bool true) (LG C.K ⟨at_,l.seed,nxtS l c,l.rows,l.whole,l.held⟩ ++ X):=by
  have hN:=Zn c
  have hw:=Zdt _ hN _ (Zx c)
  have A:StA C.K (LG C.K ⟨at_,l.seed,l.S,l.rows,l.whole,l.held⟩ ++ X) (lawB C.K) l.S:=Zer (l:=⟨at_,l.seed,l.S,l.rows,l.whole,l.held⟩)
  have O:=I.good hn
  have hnl:=ZaX _ hN
  have hnl2:(Zc c).length <= 1000:=by lia
  have e:∀ S',S' = nxtS l c -> LG C.K ⟨at_,l.seed,nxtS l c,l.rows,l.whole,l.held⟩ ++ X = SH (lawB C.K) (LG C.K ⟨at_,l.seed,l.S,l.rows,l.whole,l.held⟩ ++ X) S':=fun S' h=>by
    subst h; exact (ZoT (l:=⟨at_,l.seed,l.S,l.rows,l.whole,l.held⟩)).symm
  cases hm:ZaF (Zc c)
  . refine e0a2 (ZgT I c hm) fun _ t2 t3=>?_
    refine e0a6 (Zdu _ hN hm) fun f1 f2 f3 f4 f5 f6 f7=>?_
    have al:=ZnS I c f5 hb
    have hx:(opA c).isX = true:=by rw [ZdX ((Zc2 _ hN _ (Zx c)).1 hm)]; rfl
    cases hB:(BITS.any (· == Zc c))
    . refine e0a2 (ZfK _ hN hm hB) fun g1 g2 _=>?_
      rw [e _ (t3 hB)]
      have q:(0:Int) < 8 * (ZaE (Zc c):Int) /\ 8 * (ZaE (Zc c):Int) <= 1000 /\ Builtin.Range.rangeSize 0 128 (8 * (ZaE (Zc c):Int)) = ((Zb0 (Zc c):Nat):Int) /\ Builtin.Range.small 0 128 (8 * (ZaE (Zc c):Int)) = true /\ Zb0 (Zc c) <= 128:=by
        unfold Zb0; rcases g2 with e | e | e | e <;> rw [e] <;> decide
      refine e0a4 q fun q1 q2 q3 q4 q5=>?_
      exact ZoE (k:=k + 1) G A O (ZcU c) (ZcT c) hx f1 f2 hnl.1 hnl2 f6 g1 al.2 q1 q2 q3 q4 q5
    . rw [e _ (t2 hB)]
      exact ZoF (k:=k + 1) G A O (ZcU c) (ZcT c) hx f1 f2 hnl.1 hnl2 f6 (f7 hB) hB al.2
  . have t:((WHOLE.any (· == Zc c)) = true -> Z8 l.S (opA c) (opB c) = nxtS l c) /\ ((WHOLE.any (· == Zc c)) = false -> Z9 l.S (Zc c) (opA c) (opB c) (Zi (Zc c)) = nxtS l c):=by
      rcases hw.2.2.1 with h | h | h
      . exact (ZgS I c h hm).2
      . have:=(Zkh I c h).2; exact ⟨this.1,this.2.1⟩
      . have:=(Zki I c h).2; exact ⟨this.1,this.2.1⟩
    rcases ZhG _ hN hm with ⟨q1,q2,q3,q4⟩ | ⟨q1,q2,q3,q4⟩
    . rw [e _ (t.1 q1)]
      exact ZoC (k:=k + 1) G A O (ZcU c) (ZcT c) (op_x c) q1 (fun ha=>ZnS I c (by rw [q4]; exact ha) hb)
    . rw [e _ (t.2 q1)]
      exact ZoD (k:=k + 1) G A O (ZcU c) (ZcT c) (op_x c) q1 q2 (by rcases q3 with q | q <;> rw [q] <;> simp [Siz])
theorem ZnF {l:LS} {n:Nat} {X:List AObj} (G:KF C.K) (D:KD C.K) (GO:KO C.K) (I:Inv l n) (hn:n <= 8) (c:Int) (hb:Zak c (atOf l c) = true) (at_:Option PV) :
    Zb1 C (k + 10) (.ref (ga C.K "vector_deed")) [.ref 8,ZP C.K (Zc c) ((opA c).pv C.K) ((opB c).pv C.K)] (LG C.K ⟨at_,l.seed,l.S,l.rows,l.whole,l.held⟩ ++ X):=by
  have hN:=Zn c
  have hw:=Zdt _ hN _ (Zx c)
  have A:StA C.K (LG C.K ⟨at_,l.seed,l.S,l.rows,l.whole,l.held⟩ ++ X) (lawB C.K) l.S:=Zer (l:=⟨at_,l.seed,l.S,l.rows,l.whole,l.held⟩)
  have O:=I.good hn
  have hnl:=ZaX _ hN
  have hnl2:(Zc c).length <= 1000:=by lia
  unfold Zak at hb
  rw [hw.1] at hb
  simp only [Bool.and_eq_true,Bool.or_eq_true,beq_iff_eq] at hb
  refine e0a2 hb fun b1 b2 b3=>?_
  have hU:¬ (Z3 l.S (ZS c) (Zab c)).fmod 16 = 0:=by
    rw [I.place c,Int.fmod_eq_emod_of_nonneg _ (by decide)]; simpa using b3
  have hUA:Txt.item (dWay c) 0 = "m" → Unal l.S (opA c):=fun h=>by rw [Zhf h]; exact hU
  have hUB:Txt.item (dWay c) 1 = "m" → Unal l.S (opB c):=fun h=>by rw [Zhe h]; exact hU
  cases hm:ZaF (Zc c)
  . refine e0a6 (Zdu _ hN hm) fun f1 f2 f3 f4 f5 f6 f7=>?_
    have h0:=(Zc2 _ hN _ (Zx c)).1 hm
    have hx:(opA c).isX = true:=by rw [ZdX h0]; rfl
    have h1:Txt.item (dWay c) 1 = "m" := by
      rcases b1 with h | h
      . rw [h] at h0; exact absurd h0 (by decide)
      . exact h
    refine ZnH (k:=k + 1) (size:=Z2 (Zc c)) G D GO A O (ZcU c) (ZcT c) hx f1 f2 hnl.1 hnl2 f6 rfl ?_ (hUB h1)
    cases hB:(BITS.any (· == Zc c))
    . refine e0a2 (ZfK _ hN hm hB) fun g1 g2 _=>?_
      rw [g1]
      rcases g2 with e | e | e | e <;> rw [e] <;> decide
    . simp
  . rcases ZhG _ hN hm with ⟨q1,q2,q3,q4⟩ | ⟨q1,q2,q3,q4⟩
    . refine ZnG (k:=k + 1) G D GO A O (ZcU c) (ZcT c) (op_x c) q1 (by rw [<- q4]; exact b2) ?_
      by_cases h0:Txt.item (dWay c) 0 = "m"
      . exact .inl (hUA h0)
      . have h1:Txt.item (dWay c) 1 = "m" := b1.resolve_left h0
        refine .inr ⟨?_,hUB h1⟩
        rcases hw.2.2.1 with h | h | h
        . rw [ZdX h]; trivial
        . exact absurd h h0
        . rw [Zhg h]; trivial
    . rw [q4] at b2; exact ft b2
end
end
section
theorem walk_C33_0:True:=by
  k_with "bin" => (fail_if_success k_extra "d33"); first | exact ZQ (by first | decide | assumption)
  k_with "cmp" => (fail_if_success k_extra "d33"); first | exact ZbJ
  trivial
section
variable {C:Cx} {k:Nat} (G:KF C.K) {la:Addr} {lcd:Value}
include G
theorem Zlp {l:LS} {X:List AObj} {c:Int} {cells:List Int} {bd:Bool} {t d:List Int} {A:Int} (ha:l.at_ = some (.int A)) (ht:t.length = Zt c) (ho:Octs t) (hz:l.held.length <= 800) (hw:l.whole.length = 16) (hr:l.rows.length = 16) (hrl:∀ r ∈ l.rows,r.length = 16)
    (hd:ZaF (Zc c) = false → CallJ C (k + 10) (.ref (ga C.K "_law_done")) [.str (Zc c),.lst ((l.rows.getD (dOne c) []).map .int),.lst (t.map .int)] (LG C.K l ++ X) (.lst (d.map .int)) (LG C.K l ++ X)) :
    Ex1 C (k + 10) (ZB la lcd) ⟨LT C.K cells c bd t,Zd,LG C.K l ++ X,none,[]⟩ U0 .next ⟨LT C.K cells c bd t,Zd,LG C.K (ZcJ l c A t d) ++ X,none,[]⟩:=by
  have hway:=Zda _ _ (Zx c)
  have hml:=ZaC c
  have ht16:t.length <= 16:=by lia
  have hnl:=ZaX _ (Zn c)
  have u1:=Zi6 (k:=k) G (la:=la) (lcd:=lcd) (X:=X) (c:=c) (cells:=cells) (bd:=bd) ha ht hz
  have u2:=Zi7 (k:=k) G (la:=la) (lcd:=lcd) (X:=X) (c:=c) (cells:=cells) (bd:=bd) ht16 ho hw
  have u4:=Zi5 (k:=k) G (la:=la) (lcd:=lcd) (X:=X) (c:=c) (cells:=cells) (bd:=bd) hr hrl ht16
  have u5:=Zi4 (k:=k) G (la:=la) (lcd:=lcd) (X:=X) (c:=c) (cells:=cells) (bd:=bd) hr ht16
  have u3:ZaF (Zc c) = false -> _:=fun h=>Zi8 (k:=k) G (la:=la) (lcd:=lcd) (X:=X) (c:=c) (cells:=cells) (bd:=bd) hr (hd h)
  unfold ZcJ
  unfold Zd at u1 u2 u3 u4 u5 ⊢
  show Ex1 _ _ _ _ (.If _ _ _ _) _ _
  refine ZcN (c:=Txt.item (dWay c) 0 == "m") (Zal (Zaj (a:=.str (dWay c)) (i:=.int 0) (by k_extra "w") (by k_extra "w") (Zc4 hway (by decide) (by decide))) (by k_extra "w") (by k_extra "w")) (fun h=>?_) (fun h=>?_)
  . rw [if_pos h]; exact u1
  . rw [if_neg (by rw [h]; decide)]
    refine Za (ZcN (c:=Txt.item (dWay c) 0 == "g") (Zal (Zaj (a:=.str (dWay c)) (i:=.int 0) (by k_extra "w") (by k_extra "w") (Zc4 hway (by decide) (by decide))) (by k_extra "w") (by k_extra "w")) (fun h=>?_) (fun h=>?_)) Ze
    . rw [if_pos h]; exact u2
    . rw [if_neg (by rw [h]; decide)]
      refine Za (ZcN (c:=Txt.slice (Zc c) none (some 3) != "mov") (Zal (Zau (by k_extra "w") .none (Zbm (by k_extra "w")) (by lia)) (by k_extra "w") (by k_extra "w")) (fun h=>?_) (fun h=>?_)) Ze
      . rw [if_pos h]; exact u3 (by rw [movx] at h; simpa using h)
      . rw [if_neg (by rw [h]; decide)]
        refine Za (ZcN (c:=(["movss", "movsd"]:List Str).any (· == Zc c) && (dWay c == "xx" && true)) (by repeat' k_extra "w") (fun h=>?_) (fun h=>?_)) Ze
        . rw [if_pos h]; exact u4
        . rw [if_neg (by rw [h]; decide)]; exact u5
end
theorem walk_C33_z:True:=by
  k_with "d33" => skip
  trivial
end
section
theorem Zm7 {K:Frag} {cells:List Int} {c:Int} {l:LS} {t:List Int}:stl (Str.ofString "taken") (.lst (t.map .int)) (LR K cells c l) = LT K cells c (Zak c (atOf l c)) t:=by k_extra "stl"
section
variable {C:Cx} (G:KF C.K) (D:KD C.K) (GX:KX C.K) (GO:KO C.K) {la:Addr} {lcd:Value}
include G D GX GO
theorem Zi9 {l:LS} {n:Nat} {X:List AObj} {c:Int} {cells:List Int} (I:Inv l n) (hn:n <= 8) :
    ∃ l' o,(o = Out.next ∨ o = Out.cont) ∧ Ex C 61 (ZB la lcd) ⟨LM cells [("cell", .int c)],Zd,LG C.K l ++ X,none,[]⟩ (Zh (LB 13)) o ⟨l',Zd,LG C.K (step l c) ++ X,none,[]⟩ ∧ LSub (LM cells []) l':=by
  have e:Zh (LB 13) = (Zh (LB 13)).getD 0 (LB 0) :: (Zh (LB 13)).getD 1 (LB 0) :: (Zh (LB 13)).getD 2 (LB 0) :: (Zh (LB 13)).getD 3 (LB 0) :: (Zh (LB 13)).getD 4 (LB 0) :: (Zh (LB 13)).getD 5 (LB 0) :: (Zh (LB 13)).getD 6 (LB 0) :: (Zh (LB 13)).getD 7 (LB 0) :: (Zh (LB 13)).getD 8 (LB 0) :: (Zh (LB 13)).getD 9 (LB 0) :: (Zh (LB 13)).getD 10 (LB 0) :: (Zh (LB 13)).getD 11 (LB 0) :: (Zh (LB 13)).getD 12 (LB 0) :: (Zh (LB 13)).getD 13 (LB 0) :: (Zh (LB 13)).getD 14 (LB 0) :: [(Zh (LB 13)).getD 15 (LB 0),(Zh (LB 13)).getD 16 (LB 0),U0]:=by kernel_rfl
  have hl:=I.hl
  cases hb:Zak c (atOf l c)
  . refine e0a2 (Zbo I c) fun t1 t2 t3=>?_
    have ho:=Za1 c
    have hrow:=I.row ho
    refine ⟨LT C.K cells c (Zak c (atOf l c)) (ZC l c),.next,.inl rfl,?_,by k_extra "lsub"⟩
    rw [e]
    refine Zkt (k:=51) G (Zks (k:=51) G D I.w16 (Za (Zlq (k:=51) (l:=⟨some (.int (atOf l c)),l.seed,l.S,l.rows,l.whole,l.held⟩) G hb (ZlH G I hn c hb _)) (Za (Zhq (k:=51) (l:=⟨some (.int (atOf l c)),l.seed,nxtS l c,l.rows,l.whole,l.held⟩) G I.r16 I.rl I.w16 rfl) (ZaA (l':=LT C.K cells c (Zak c (atOf l c)) (ZC l c)) (by exact Zm7) (Za ?_ Ze)))))
    have:=Zlp (k:=51) G (la:=la) (lcd:=lcd) (X:=X) (c:=c) (cells:=cells) (bd:=Zak c (atOf l c)) (l:=⟨some (.int (atOf l c)),l.seed,nxtS l c,l.rows,l.whole,l.held⟩) (A:=atOf l c) (t:=ZC l c) (d:=Zgm l c) rfl t3 t2 (by show l.held.length <= _; lia) I.w16 I.r16 I.rl (fun hm=>by
      have hm16:Zt c = 16:=by
        have:=(Zci c).1
        have:=(Zdu _ (Zn c) hm).2.2.2.1
        lia
      exact ZnQ (k:=59) G (Zn c) hm hrow.1 (by rw [t3,hm16]))
    have e2:ZcJ ⟨some (.int (atOf l c)),l.seed,nxtS l c,l.rows,l.whole,l.held⟩ c (atOf l c) (ZC l c) (Zgm l c) = step l c:=by
      unfold step
      rw [if_neg (by rw [hb]; decide)]
      unfold nxt upd ZcJ
      split
      . rfl
      . split
        . rfl
        . split
          . rfl
          . split <;> rfl
    rw [e2] at this
    exact this
  . have e2:step l c = ⟨some (.int (atOf l c)),l.seed,l.S,l.rows,l.whole,l.held⟩:=by unfold step; rw [if_pos hb]; rfl
    refine ⟨LR C.K cells c l,.cont,.inr rfl,?_,by k_extra "lsub"⟩
    rw [e,e2]
    exact Zkt (k:=51) G (Zks (k:=51) G D I.w16 (Zy (Zja (l:=⟨some (.int (atOf l c)),l.seed,l.S,l.rows,l.whole,l.held⟩) G GX hb (ZnF (k:=51) G D GO I hn c hb _)) (by intro e; cases e)))
end
end
section
noncomputable def sts (l:LS) (cells:List Int):Nat -> LS
  | 0=>l
  | i + 1=>step (sts l cells i) (cells.getD i 0)
theorem ZeS {l:LS} {cells:List Int} (I:Inv l 0):∀ i,Inv (sts l cells i) i
  | 0=>I
  | i + 1=>Zjm (ZeS I i) _
theorem ZlX {l:LS} {c:Int}:(step l c).at_ = some (.int (atOf l c)):=by unfold step; split <;> rfl
theorem ZkC {l:LS} {cells:List Int} (h:∀ v,l.at_ = some v -> ∃ i,v = .int i):∀ i v,(sts l cells i).at_ = some v -> ∃ i,v = .int i
  | 0,v,e=>h v e
  | i + 1,v,e=>by
    have:(step (sts l cells i) (cells.getD i 0)).at_ = some v:=e
    rw [ZlX] at this; obtain rfl:=Option.some.inj this; exact ⟨_,rfl⟩
theorem ZdI {K:Frag} {l:LS} {n:Nat} (hn:19 <= n) (h:∀ v,l.at_ = some v -> ∃ i,v = .int i):LimH n (LG K l):=Zn7 hn fun v e=>by refine e1a0 (h v e) fun i hqa=>?_; subst hqa; rfl
theorem ZkP {n:Nat} {cells:List Int} (hn:18 <= n):LimL n (LM cells []):=LimL.cons Zz (LimL.cons (limr (by lia)) (LimL.cons (limr (by lia)) (LimL.cons (limr (by lia)) (LimL.cons rfl LimL.nil))))
section
variable {C:Cx} (G:KF C.K) (D:KD C.K) (GX:KX C.K) (GO:KO C.K) {la:Addr} {lcd:Value}
include G D GX GO
theorem Zjd {l:LS} {cells:List Int} (I:Inv l 0) (hc:cells.length <= 8) (ha:∀ v,l.at_ = some v -> ∃ i,v = .int i) :
    Ex1 C 61 (ZB la lcd) ⟨LM cells [],Zd,LG C.K l,none,[]⟩ (LB 13) .next ⟨LM cells [],Zd,LG C.K (sts l cells cells.length),none,[]⟩:=by
  show Ex1 _ _ _ _ (.For (.Name _ _) _ (Zh (LB 13)) [] _) _ _
  refine Zff (k:=60) (xs:=cells) (fun _=>LM cells []) (fun i=>LG C.K (sts l cells i)) rfl (by kernel_rfl) (by k_extra "w") (fun _ _ e=>e) rfl (fun _=>rfl) (fun i hi os ho=>?_) (ZdI (by rw [Z0]; lia) (ZkC ha _)) (ZkP (by rw [Z0]; lia))
  obtain ⟨l',o,h1,h2,h3⟩:=Zi9 (la:=la) (lcd:=lcd) (X:=os.map AObj.raw) (c:=cells.getD i 0) (cells:=cells) G D GX GO (ZeS I i) (by lia)
  refine ⟨l',o,h1,?_,h3⟩
  exact ZaA (l':=LM cells [("cell", .int (cells.getD i 0))]) (by k_extra "stl") h2
end
end
section
theorem walk_C36_0:True:=by
  k_with "bin" => (fail_if_success k_extra "d36"); first | exact ZQ (by decide)
  k_with "sb" => (fail_if_success k_extra "d36"); first | exact ZgA (.led (by k_extra "hget1")) (by assumption) (by assumption) | exact ZdF (.led (by k_extra "hget1")) (by assumption) (by lia)
  k_with "call" => (fail_if_success k_extra "d36"); first | exact ZA | refine' ZlL (by assumption) (by assumption) | refine' ZjE (by assumption) (by assumption) (.inl rfl) | refine' ZdA (by assumption) ?_ ?_ | refine' Zai (by assumption)
  trivial
section
variable {C:Cx} {k:Nat} (G:KF C.K) {la:Addr} {lcd:Value}
include G
theorem Zjb {l:LS} {cells:List Int}:Ex1 C (k + 10) (ZB la lcd) ⟨LL cells,Zd,LG C.K l,none,[]⟩ (LB 12) .next ⟨LM cells [],Zd,LG C.K l,none,[]⟩:=by
  have g1:(LG C.K l)[8]? = some (.inst (ga C.K "State") 7):=rfl
  have g2:(LG C.K l)[7]? = some (.attrs [("iset", .ref 4),("regs", .ref 9),("xmm", .ref 10),("flags", .obj (ga C.K "Flags") [("cf", .int 0),("pf", .int 0),("af", .int 0),("zf", .int 0),("sf", .int 0),("of", .int 0),("df", .int 0)]),("memory", .ref 12),("rip", .int 0),("begin", .int 0),("segments", .any),("is_halted", .bool false)]):=rfl
  unfold Zd
  show Ex1 _ _ _ _ (.Assign _ _ _) _ _
  exact Zj (v:=.tup [.int 0,.int 0,.int 0,.int 0,.int 0,.int 0,.int 0]) (l:=LL cells) (ZaN (by repeat' k_extra "w") (by exact Zif G (by kernel_rfl) (by kernel_rfl) (by kernel_rfl)) (by k_extra "able") (by repeat' k_extra "w") (by exact Zai G)) (by k_extra "stl") rfl (by kernel_rfl)
theorem Zjf {l:LS} {n i:Nat} {X:List AObj} {cells:List Int} (I:Inv l n) (hn:n <= 8) (hi:i < 16) :
    Ex C (k + 10) (ZB la lcd) ⟨LM cells [],Zd,LG C.K ⟨some (.int (i:Int)),l.seed,l.S,l.rows,l.whole,l.held⟩ ++ X,none,[]⟩ (Zh (LB 14)) .next ⟨LM cells [],Zd,LG C.K ⟨some (.int (i:Int)),l.seed,l.S,l.rows,l.whole,l.held⟩ ++ X,none,[]⟩:=by
  have A:StA C.K (LG C.K ⟨some (.int (i:Int)),l.seed,l.S,l.rows,l.whole,l.held⟩ ++ X) (lawB C.K) l.S:=Zer (l:=⟨some (.int (i:Int)),l.seed,l.S,l.rows,l.whole,l.held⟩)
  have O:=I.good hn
  have hrow:=I.row hi
  have hoc:=hrow.2
  have hlen:(l.rows.getD i []).length <= 100:=by lia
  have hir:i < l.rows.length:=by rw [I.r16]; exact hi
  have hir2:l.rows.length <= 100000:=by rw [I.r16]; decide
  have hiw:i < l.whole.length:=by rw [I.w16]; exact hi
  have hiw2:l.whole.length <= 100000:=by rw [I.w16]; decide
  have g1:(LG C.K ⟨some (.int (i:Int)),l.seed,l.S,l.rows,l.whole,l.held⟩ ++ X)[1]? = some (.cell (some (.int (i:Int)))):=rfl
  have hx:=I.xmm hi
  refine e0a2 (I.reg hi) fun hr hr0 hr1=>?_
  unfold Zd
  show Ex _ _ _ _ [.If (.BoolOp .Or [.Compare _ [_] [_] _,.Compare _ [_] [_] _] _) _ _ _] _ _
  let S0:St:=⟨LM cells [],[("held", 0),("at", 1),("seed", 2)],LG C.K ⟨some (.int (i:Int)),l.seed,l.S,l.rows,l.whole,l.held⟩ ++ X,none,[]⟩
  have b:((l.S.xmm.getD i 0 != Zb (l.rows.getD i [])) || ((l.S.regs.getD i 0 % 2 ^ (64:Int).toNat != l.whole.getD i 0) || false)) = false:=by
    rw [hx,hr,show (64:Int).toNat = 64 from rfl,Int.emod_eq_of_lt hr0 hr1]; simp
  refine Zs (σ₁:=S0) (c:=((l.S.xmm.getD i 0 != Zb (l.rows.getD i [])) || ((l.S.regs.getD i 0 % 2 ^ (64:Int).toNat != l.whole.getD i 0) || false))) (Zcx (Zel (Zal (σ₁:=S0) (σ₂:=S0) (a:=.int (l.S.xmm.getD i 0)) (b:=.int (Zb (l.rows.getD i []))) ?_ ?_ Zfi) (fun _=>Zel (Zal (σ₁:=S0) (σ₂:=S0) (a:=.int (l.S.regs.getD i 0 % 2 ^ (64:Int).toNat)) (b:=.int (l.whole.getD i 0)) ?_ ?_ Zfi) (fun _=>Zfb)))) b Ze
  . exact Zae (by k_extra "w") (by k_extra "me") (by k_extra "able") (by repeat' k_extra "w") (by exact ZfR (k:=k + 7) G A O hi)
  . repeat' k_extra "w"
    . exact hoc
    . exact hlen
  . exact Zae (by k_extra "w") (by k_extra "me") (by k_extra "able") (by repeat' k_extra "w") (by exact ZfS (k:=k + 7) G A O hi (by decide) (by decide))
  . repeat' k_extra "w"
noncomputable def atL (l:LS):Nat -> LS
  | 0=>l
  | i + 1=>⟨some (.int (i:Int)),l.seed,l.S,l.rows,l.whole,l.held⟩
theorem Zlu {l:LS} {n:Nat} {cells:List Int} (I:Inv l n) (hn:n <= 8) (ha:∀ v,l.at_ = some v -> ∃ i,v = .int i) :
    Ex1 C (k + 10) (ZB la lcd) ⟨LM cells [],Zd,LG C.K l,none,[]⟩ (LB 14) .next ⟨LM cells [],Zd,LG C.K (atL l 16),none,[]⟩:=by
  unfold Zd
  show Ex1 _ _ _ _ (.For (.Name _ _) _ (Zh (LB 14)) [] _) _ _
  refine Zbw (k:=k + 9) (n:=16) (c:=1) (fun _=>LM cells []) (fun i=>LG C.K (atL l i)) rfl (by kernel_rfl) (by k_extra "lkN") (by rw [Z0]; decide) (fun i=>⟨(atL l i).at_,rfl⟩) (by repeat' k_extra "w") (by decide) (fun _ _ e=>e) rfl (fun _=>rfl) (fun i hi os ho=>?_) (ZdI (by rw [Z0]; lia) (fun v e=>by obtain rfl:=Option.some.inj e; exact ⟨_,rfl⟩)) (ZkP (by rw [Z0]; lia))
  refine ⟨LM cells [],.next,.inl rfl,?_,fun _ _ e=>e⟩
  have e:(LG C.K (atL l i)).set 1 (.cell (some (.int (i:Int)))) = LG C.K ⟨some (.int (i:Int)),l.seed,l.S,l.rows,l.whole,l.held⟩:=by cases i <;> rfl
  rw [e]
  exact Zjf G I hn hi
end
theorem walk_C36_z:True:=by
  k_with "d36" => skip
  trivial
end
section
theorem ZcO (mem:List (Int × Int)):(wrs mem).length <= mem.length:=by
  unfold wrs; rw [List.length_map]; exact List.length_filter_le _ _
theorem walk_C37_0:True:=by
  k_with "hget1" => (fail_if_success k_extra "d37"); first | with_reducible assumption | with_reducible exact ZaL
  k_with "sb" => (fail_if_success k_extra "d37"); exact Zfd (.inr ⟨_,by assumption⟩) (by exact Zkr (by assumption))
  trivial
section
variable {C:Cx} {k:Nat} (G:KF C.K) {H:List AObj} {m md d:Nat} {mem:List (Int × Int)}
include G
theorem ZhO {q:List Nat} (hq:ZdE (wrs mem) q) (hql:q.length = (wrs mem).length) (hqi:∀ i ∈ q,i < (wrs mem).length) (M:MemAt C.K H m md d mem) (hz:mem.length <= 1000) :
    CallJ C (k + 4) (.ref (ma C.K "Memory" "written")) [.ref m] H (.lst ((q.map fun i=>(wrs mem).getD i (0,0)).map ZO)) H:=by
  have hw:=ZcO mem
  have hdl:d < H.length:=(List.getElem?_eq_some_iff.mp M.hd).1
  have n1:m ≠ d:=fun e=>by have:=M.hm; rw [e,M.hd] at this; cases this
  have n2:md ≠ d:=fun e=>by have:=M.hmd; rw [e,M.hd] at this; cases this
  refine CodeJ.call ?_
  exact Zb4 G.m_written (names:=["self"]) (offs:=[("self", 0)]) (cm:=[("self", H.length)]) (cobs:=[.cell (some (.ref m))]) (loc:=[])
    (by kernel_rfl) (fun s vs _ h=>by refine e1a0 (len1 h) fun v0 hqa=>?_; subst hqa; rw [List.append_nil]; exact BindsTo.of_eq (Zcv G.m_written (by kernel_rfl) (fun _ _ _ _ _ _=>by kernel_rfl))) (fun n=>by kernel_rfl) (by decide +kernel) (by decide +kernel) (by kernel_rfl) (by kernel_rfl) (by kernel_rfl)
    (fun lH lA=>by
      refine ⟨?_,lH,ZcX _ _⟩
      k_extra "body"
      refine Zy (Z1 (Zan (v:=.builtin "sorted") G (by kernel_rfl) (by kernel_rfl) (by kernel_rfl) (by kernel_rfl) (by kernel_rfl) Zah (Zu (Zey (d:=d) (mem:=mem) (cc:=[("self", H.length)]) (H:=H ++ [.cell (some (.ref m))]) (ZK M.hd) rfl (fun o=>?_) (by lia) (ZlK (by kernel_rfl) (by kernel_rfl) (by k_extra "lkN")) (by kernel_rfl) (by kernel_rfl) (fun p o os ys hp ho=>?_)).lst ZH) (ZcG hq hql hqi (by lia)))) (by intro e; cases e)
      . have e:(H ++ [AObj.cell (some (.ref m))]).set d (.fix (.dict (dI mem)) o) = H.set d (.fix (.dict (dI mem)) o) ++ [.cell (some (.ref m))]:=List.set_append_left _ _ hdl
        rw [e]
        have g1:(H.set d (.fix (.dict (dI mem)) o) ++ [AObj.cell (some (.ref m))])[m]? = some (.inst (ga C.K "Memory") md):=ZK (by rw [List.getElem?_set_ne (Ne.symm n1)]; exact M.hm)
        have g2:(H.set d (.fix (.dict (dI mem)) o) ++ [AObj.cell (some (.ref m))])[md]? = some (.attrs [("held", .ref d)]):=ZK (by rw [List.getElem?_set_ne (Ne.symm n2)]; exact M.hmd)
        have g3:(H.set d (.fix (.dict (dI mem)) o) ++ [AObj.cell (some (.ref m))])[H.length]? = some (.cell (some (.ref m))):=by simp
        repeat' k_extra "w"
      . have e:(H ++ [AObj.cell (some (.ref m))]).set d (.fix (.dict (dI mem)) o) = H.set d (.fix (.dict (dI mem)) o) ++ [.cell (some (.ref m))]:=List.set_append_left _ _ hdl
        rw [e]
        have g1:(H.set d (.fix (.dict (dI mem)) o) ++ [AObj.cell (some (.ref m))] ++ os.map AObj.raw ++ [.list ys,.ns [("place", .int p.1)]])[m]? = some (.inst (ga C.K "Memory") md):=ZK (ZK (ZK (by rw [List.getElem?_set_ne (Ne.symm n1)]; exact M.hm)))
        have g2:(H.set d (.fix (.dict (dI mem)) o) ++ [AObj.cell (some (.ref m))] ++ os.map AObj.raw ++ [.list ys,.ns [("place", .int p.1)]])[md]? = some (.attrs [("held", .ref d)]):=ZK (ZK (ZK (by rw [List.getElem?_set_ne (Ne.symm n2)]; exact M.hmd)))
        have g3:(H.set d (.fix (.dict (dI mem)) o) ++ [AObj.cell (some (.ref m))] ++ os.map AObj.raw ++ [.list ys,.ns [("place", .int p.1)]])[H.length]? = some (.cell (some (.ref m))):=ZK (ZK (by simp))
        have g4:(H.set d (.fix (.dict (dI mem)) o) ++ [AObj.cell (some (.ref m))] ++ os.map AObj.raw ++ [.list ys,.ns [("place", .int p.1)]])[d]? = some (.fix (.dict (dI mem)) o):=ZK (ZK (ZK (by simp [hdl])))
        have g5:(H.set d (.fix (.dict (dI mem)) o) ++ [AObj.cell (some (.ref m))] ++ os.map AObj.raw ++ [.list ys,.ns [("place", .int p.1)]])[(H ++ [AObj.cell (some (.ref m))]).length + os.length + 1]? = some (.ns [("place", .int p.1)]):=by
          rw [show (H ++ [AObj.cell (some (.ref m))]).length = (H.set d (.fix (.dict (dI mem)) o) ++ [AObj.cell (some (.ref m))]).length by simp]; exact Zbl
        refine ⟨?_,?_⟩
        . repeat' k_extra "w"
        . unfold ZO
          repeat' k_extra "w") (.ret _) (by simp) (by simp)
end
theorem walk_C37_z:True:=by
  k_with "d37" => skip
  trivial
end
section
theorem walk_C38_0:True:=by
  k_with "sb" => (fail_if_success k_extra "d38"); exact Zfd (.inr ⟨_,by assumption⟩) (by exact Zkr (by assumption))
  k_with "call" => (fail_if_success k_extra "d38"); first | refine' Zai (by assumption)
  trivial
section
variable {C:Cx} {k:Nat} (G:KF C.K) {la:Addr} {lcd:Value}
include G
theorem Znl {l:LS} {n:Nat} {cells:List Int} (I:Inv l n) (hn:n <= 8) :
    Ex1 C (k + 10) (ZB la lcd) ⟨LM cells [],Zd,LG C.K l,none,[]⟩ (LB 15) .next ⟨LM cells [],Zd,LG C.K l,none,[]⟩:=by
  have hm:l.S.mem = l.held:=by rw [I.hS]
  have hz:l.held.length <= 1000:=by have:=I.hl; lia
  refine e1a2 (ZiR (wrs l.held)) fun q hql hqi hq=>?_
  have hw:=ZcO l.held
  have M:MemAt C.K (LG C.K l) 12 11 13 l.held:=by have:=ZkR (K:=C.K) (l:=l) (X:=[]); rw [List.append_nil,hm] at this; exact this
  have g0:(LG C.K l)[0]? = some (.cell (some (.ref 18))):=rfl
  have g1:(LG C.K l)[8]? = some (.inst (ga C.K "State") 7):=rfl
  have g2:(LG C.K l)[7]? = some (.attrs [("iset", .ref 4),("regs", .ref 9),("xmm", .ref 10),("flags", .obj (ga C.K "Flags") [("cf", .int 0),("pf", .int 0),("af", .int 0),("zf", .int 0),("sf", .int 0),("of", .int 0),("df", .int 0)]),("memory", .ref 12),("rip", .int 0),("begin", .int 0),("segments", .any),("is_halted", .bool false)]):=rfl
  have g3:=M.hm
  have g4:=M.hmd
  unfold Zd
  let S0:St:=⟨LM cells [],[("held", 0),("at", 1),("seed", 2)],LG C.K l,none,[]⟩
  show Ex1 _ _ _ _ (.If (.Compare _ [_] [_] _) _ _ _) _ _
  refine Za2 (σ₁:=S0) (Zal (σ₁:=S0) (σ₂:=S0) (a:=.lst ((q.map fun i=>(wrs l.held).getD i (0,0)).map ZO)) (b:=.lst ((q.map fun i=>(wrs l.held).getD i (0,0)).map ZO)) ?_ ?_ (Zj3 (.fz _) (.fz _))) Ze
  . exact ZaN (by repeat' k_extra "w") (by k_extra "me") (by k_extra "able") (by repeat' k_extra "w") (by exact ZhO (k:=k + 6) G hq hql hqi M hz)
  . refine Zan (v:=.builtin "sorted") G (by kernel_rfl) (by kernel_rfl) (by kernel_rfl) (by kernel_rfl) (by kernel_rfl) Zah (Zu (Zey (d:=18) (mem:=l.held) (cc:=[("held", 0)]) (H:=LG C.K l) rfl rfl (fun o=>?_) (by lia) (ZlK (by kernel_rfl) (by kernel_rfl) (by k_extra "lkN")) (by kernel_rfl) (by kernel_rfl) (fun p o os ys hp ho=>?_)).lst ZH) (ZcG hq hql hqi (by lia))
    . have g0:((LG C.K l).set 18 (.fix (.dict (dI l.held)) o))[0]? = some (.cell (some (.ref 18))):=rfl
      repeat' k_extra "w"
    . have g0:((LG C.K l).set 18 (.fix (.dict (dI l.held)) o) ++ os.map AObj.raw ++ [.list ys,.ns [("at", .int p.1)]])[0]? = some (.cell (some (.ref 18))):=rfl
      have g4:((LG C.K l).set 18 (.fix (.dict (dI l.held)) o) ++ os.map AObj.raw ++ [.list ys,.ns [("at", .int p.1)]])[18]? = some (.fix (.dict (dI l.held)) o):=rfl
      have g5:((LG C.K l).set 18 (.fix (.dict (dI l.held)) o) ++ os.map AObj.raw ++ [.list ys,.ns [("at", .int p.1)]])[(LG C.K l).length + os.length + 1]? = some (.ns [("at", .int p.1)]):=by
        rw [show (LG C.K l).length = ((LG C.K l).set 18 (.fix (.dict (dI l.held)) o)).length by simp]; exact Zbl
      refine ⟨?_,?_⟩
      . repeat' k_extra "w"
      . unfold ZO
        repeat' k_extra "w"
theorem Zlt {l:LS} {cells:List Int} :
    Ex C (k + 10) (ZB la lcd) ⟨LM cells [],Zd,LG C.K l,none,[]⟩ [LB 16] (.ret (.bool true)) ⟨LM cells [],Zd,LG C.K l,none,[]⟩:=by
  have g1:(LG C.K l)[8]? = some (.inst (ga C.K "State") 7):=rfl
  have g2:(LG C.K l)[7]? = some (.attrs [("iset", .ref 4),("regs", .ref 9),("xmm", .ref 10),("flags", .obj (ga C.K "Flags") [("cf", .int 0),("pf", .int 0),("af", .int 0),("zf", .int 0),("sf", .int 0),("of", .int 0),("df", .int 0)]),("memory", .ref 12),("rip", .int 0),("begin", .int 0),("segments", .any),("is_halted", .bool false)]):=rfl
  unfold Zd
  let S0:St:=⟨LM cells [],[("held", 0),("at", 1),("seed", 2)],LG C.K l,none,[]⟩
  show Ex _ _ _ _ [.Return (some (.Compare _ [_] [_] _)) _] _ _
  refine Zy (Z1 (ZkY (σ₁:=S0) (σ₂:=S0) (a:=.tup ([0,0,0,0,0,0,0].map .int)) (b:=.tup ([0,0,0,0,0,0,0].map .int)) ?_ ?_ Zj4)) (by intro e; cases e)
  . exact ZaN (by repeat' k_extra "w") (by exact Zif G (by kernel_rfl) (by kernel_rfl) (by kernel_rfl)) (by k_extra "able") (by repeat' k_extra "w") (by exact Zai G)
  . show Ev _ _ _ S0 _ (.tup [.int 0,.int 0,.int 0,.int 0,.int 0,.int 0,.int 0]) S0
    repeat' k_extra "w"
end
theorem walk_C38_z:True:=by
  k_with "d38" => skip
  trivial
end
section
noncomputable def sdA (cells:List Int):Nat -> Int
  | 0=>1
  | i + 1=>(sdA cells i * 7 + cells.getD i 0) % 99991
theorem Znd {cells:List Int} {i:Nat}:sdA cells (i + 1) = (sdA cells i * 7 + cells.getD i 0) % 99991:=rfl
theorem ZdS (cells:List Int):∀ i,0 <= sdA cells i /\ sdA cells i < 99991
  | 0=>⟨(by decide:(0:Int) <= 1),(by decide:(1:Int) < 99991)⟩
  | i + 1=>by rw [Znd]; lia
noncomputable abbrev L0 (cells:List Int):List (Str × PV):=[("cells", .lst (cells.map .int))]
theorem walk_C39_0:True:=by
  k_with "hget1" => (fail_if_success k_extra "d39"); first | with_reducible assumption | with_reducible exact ZaL
  k_with "hget" => (fail_if_success k_extra "d39"); first | k_extra "hget1" | with_reducible rfl | exact rfl
  k_with "bin" => (fail_if_success k_extra "d39"); first | exact ZQ (by decide)
  trivial
section
variable {C:Cx} {k:Nat} {la:Addr} {lcd:Value}
theorem Znt {l:List (Str × PV)} {a b c:Option PV}:Ex1 C (k + 10) (ZB la lcd) ⟨l,Zd,[.cell a,.cell b,.cell c],none,[]⟩ (LB 2) .next ⟨l,Zd,[.cell a,.cell b,.cell (some (.int 1))],none,[]⟩:=by
  unfold Zd
  show Ex1 _ _ _ _ (.Assign _ _ _) _ (⟨l,[("held", 0),("at", 1),("seed", 2)],([.cell a,.cell b,.cell c]:List AObj).set 2 (.cell (some (.int 1))),none,[]⟩:St)
  exact ZcC (by repeat' k_extra "w") (by k_extra "lkN") rfl rfl (by kernel_rfl)
theorem Zns {l:List (Str × PV)} {cells:List Int} (hl:lk "cells" l = some (.lst (cells.map .int))):Ex1 C (k + 10) (ZB la lcd) ⟨l,Zd,[.cell none,.cell none,.cell (some (.int 1))],none,[]⟩ (LB 3) .next ⟨L0 cells,Zd,[.cell none,.cell none,.cell (some (.int (sdA cells cells.length)))],none,[]⟩:=by
  unfold Zd
  show Ex1 _ _ _ _ (.For (.Name _ _) _ (Zh (LB 3)) [] _) _ _
  refine Zff (k:=k + 9) (xs:=cells) (H:=[.cell none,.cell none,.cell (some (.int 1))]) (l0:=l) (fun _=>L0 cells) (fun i=>[.cell none,.cell none,.cell (some (.int (sdA cells i)))]) rfl (by kernel_rfl) (by refine' Zit hl (by rfl) (by kernel_rfl) (by kernel_rfl)) (LSub.cons hl LSub.nil) rfl (fun _=>rfl) (fun i hi os ho=>?_) (LimH.cons rfl (LimH.cons rfl (LimH.cons rfl LimH.nil))) (LimL.cons Zz LimL.nil)
  refine ⟨[("cells", .lst (cells.map .int)),("cell", .int (cells.getD i 0))],.next,.inl rfl,?_,fun y u e=>?_⟩
  . refine ZaA (l':=[("cells", .lst (cells.map .int)),("cell", .int (cells.getD i 0))]) (by k_extra "stl") ?_
    show Ex _ _ _ _ [.Assign _ _ _] _ _
    have hs:=ZdS cells i
    have b1:Builtin.Int.intBits (sdA cells i) <= 17:=intBits_le_iff.mpr (by lia)
    have g2:([.cell none,.cell none,.cell (some (.int (sdA cells i)))] ++ os.map AObj.raw)[2]? = some (.cell (some (.int (sdA cells i)))):=rfl
    show Ex _ _ _ _ _ _ (⟨[("cells", .lst (cells.map .int)),("cell", .int (cells.getD i 0))],[("held", 0),("at", 1),("seed", 2)],([AObj.cell none,.cell none,.cell (some (.int (sdA cells i)))] ++ os.map AObj.raw).set 2 (.cell (some (.int (sdA cells (i + 1))))),none,[]⟩:St)
    refine Za ?_ Ze
    refine ZcC ?_ (by k_extra "lkN") rfl rfl (by kernel_rfl)
    rw [Znd]
    repeat' k_extra "w"
    exact IntMulOk.of_le b1 (intBits_le_iff (m:=17).mpr (by decide)) (by decide)
  . simp only [lk_c,lk_n] at e ⊢
    split at e
    . rename_i h; rw [if_pos h]; exact e
    . exact nse e
end
theorem walk_C39_z:True:=by
  k_with "d39" => skip
  trivial
end
section
noncomputable def S00:MS:=⟨List.replicate 16 0,List.replicate 16 0,[]⟩
noncomputable def G3 (s:Int):List AObj:=[.cell none,.cell none,.cell (some (.int s))]
noncomputable def G14 (K:Frag) (s:Int):List AObj:=((LG K ⟨none,s,S00,[],[],[]⟩).set 0 (.cell none)).take 14
noncomputable def G17 (K:Frag) (s:Int):List AObj:=((LG K ⟨none,s,S00,ZF s 8,[],[]⟩).set 0 (.cell none)).take 17
noncomputable abbrev L1 (cells:List Int):List (Str × PV):=[("cells", .lst (cells.map .int)),("state", .ref 8)]
noncomputable abbrev L2 (cells:List Int):List (Str × PV):=[("cells", .lst (cells.map .int)),("state", .ref 8),("rows", .ref 16)]
noncomputable def G7 (K:Frag) (s:Int):List AObj:=((LG K ⟨none,s,S00,[],[],[]⟩).set 0 (.cell none)).take 7
theorem Zoc (K:Frag) (s:Int):VL (G14 K s) (some (.int 7)) s (ZF s 8) = G17 K s:=rfl
theorem ZoW (K:Frag) (s:Int):G3 s ++ [.attrs [("forms", .lst []),("by_name", .ref (3 + 2)),("by_code", .ref (3 + 3))],.inst (ga K "InstructionSet") (3 + 0),.dict [],.dict []] = G7 K s:=rfl
theorem Zod (K:Frag) (s:Int):G7 K s ++ Zdc K 7 (.ref 4) = G14 K s:=rfl
theorem walk_C40_0:True:=by
  k_with "hget1" => (fail_if_success k_extra "d40"); first | with_reducible assumption | with_reducible exact ZaL
  k_with "hget" => (fail_if_success k_extra "d40"); first | k_extra "hget1" | with_reducible rfl | exact rfl
  trivial
section
variable {C:Cx} {k:Nat} (G:KF C.K) {la:Addr} {lcd:Value}
include G
theorem ZlU {s:Int}:CallJ C (k + 3) (.ref (ga C.K "InstructionSet")) [.lst []] (G3 s) (.ref 4) (G7 C.K s):=by
  have:=ZnP (k:=k) G (H:=G3 s)
  have e1:(G3 s).length = 3:=rfl
  rw [e1,ZoW] at this
  exact this
theorem Zjy {s:Int}:CallJ C (k + 4) (.ref (ga C.K "State")) [.ref 4] (G7 C.K s) (.ref 8) (G14 C.K s):=by
  have:=ZlN (k:=k) G (H:=G7 C.K s) (iset:=.ref 4)
  have e1:(G7 C.K s).length = 7:=rfl
  rw [e1,Zod] at this
  exact this
theorem Znr {cells:List Int} {s:Int}:Ex1 C (k + 10) (ZB la lcd) ⟨L0 cells,Zd,G3 s,none,[]⟩ (LB 4) .next ⟨L1 cells,Zd,G14 C.K s,none,[]⟩:=by
  unfold Zd
  show Ex1 _ _ _ _ (.Assign [.Name _ _] (.Call (.Name _ _) [.Call (.Name _ _) [.List [] _] [] _] [] _) _) _ _
  exact Zj (v:=.ref 8) (l:=L0 cells) (ZU G (by kernel_rfl) (by kernel_rfl) (by kernel_rfl) (Zu (ZU G (by kernel_rfl) (by kernel_rfl) (by kernel_rfl) (Zu (ZaH ZH (by decide)) ZH) (ZlU (k:=k + 7) G)) ZH) (Zjy (k:=k + 6) G)) (by k_extra "stl") rfl (by kernel_rfl)
theorem Znq {cells:List Int} {s:Int} (h0:0 <= s) (h1:s < 99991):Ex1 C (k + 10) (ZB la lcd) ⟨L1 cells,Zd,G14 C.K s,none,[]⟩ (LB 5) .next ⟨L2 cells,Zd,G17 C.K s,none,[]⟩:=by
  rw [<- Zoc C.K s]
  have g2:(G14 C.K s)[2]? = some (.cell (some (.int s))):=rfl
  unfold Zd
  show Ex1 _ _ _ _ (.Assign [.Name _ _] (.Call (.Name _ _) [_] [] _) _) _ _
  exact Zj (v:=.ref 16) (l:=L1 cells) (ZU G (by kernel_rfl) (by kernel_rfl) (by kernel_rfl) (by repeat' k_extra "w") (ZhQ (k:=k + 8) G h0 h1)) (by k_extra "stl") rfl (by kernel_rfl)
end
theorem walk_C40_z:True:=by
  k_with "d40" => skip
  trivial
end
section
noncomputable def whF (s:Int) (i:Nat):Int:=(s + 5) ^ (5:Int).toNat * ((0 + (i:Int) * 1) + 1) * ((0 + (i:Int) * 1) + 7) % 2 ^ (64:Int).toNat
noncomputable def wh1 (s:Int):List Int:=(List.range 16).map (whF s)
noncomputable def wh2 (s:Int):List Int:=((wh1 s).set 3 8192).set 13 12288
noncomputable def l0 (s:Int) (w:List Int):LS:=⟨none,s,S00,ZF s 8,w,[]⟩
noncomputable def G18 (K:Frag) (s:Int) (w:List Int):List AObj:=(LG K (l0 s w)).set 0 (.cell none) |>.take 18
theorem Zob (K:Frag) (s:Int):G17 K s ++ [.list ((wh1 s).map .int)] = G18 K s (wh1 s):=rfl
theorem Zij (K:Frag) (s:Int) (w w':List Int):(G18 K s w).set 17 (.list (w'.map .int)) = G18 K s w':=rfl
theorem walk_C41_0:True:=by
  k_with "hget1" => (fail_if_success k_extra "d41"); first | with_reducible assumption | with_reducible exact ZaL
  k_with "hget" => (fail_if_success k_extra "d41"); first | k_extra "hget1" | with_reducible exact Zbl | with_reducible rfl | exact rfl
  k_with "bin" => (fail_if_success k_extra "d41"); first | exact ZQ (by decide)
  k_with "call" => (fail_if_success k_extra "d41"); exact ZA
  trivial
section
variable {C:Cx} {k:Nat} (G:KF C.K) {la:Addr} {lcd:Value}
include G
theorem Znp {cells:List Int} {s:Int} (h0:0 <= s) (h1:s < 99991):Ex1 C (k + 10) (ZB la lcd) ⟨L2 cells,Zd,G17 C.K s,none,[]⟩ (LB 6) .next ⟨LL cells,Zd,G18 C.K s (wh1 s),none,[]⟩:=by
  rw [<- Zob C.K s]
  unfold Zd
  show Ex1 _ _ _ _ (.Assign [.Name _ _] (.ListComp _ _ _ _) _) _ _
  refine ZjQ (l:=L2 cells) (H:=G17 C.K s) (Zex (k:=k + 9) (a:=0) (b:=16) (c:=1) (n:=16) (cc:=[("seed", 2)]) (H:=G17 C.K s) (l:=L2 cells) (whF s) rfl (by repeat' k_extra "w") (by decide +kernel) (by decide +kernel) (by decide) (ZlK (by kernel_rfl) (by kernel_rfl) (by k_extra "lkN")) (by kernel_rfl) (by kernel_rfl) (fun i hi os ho=>?_)) (Nat.le_refl _) rfl rfl (by kernel_rfl)
  have g2:(G17 C.K s ++ os.map .raw ++ [.list ((List.range i).map fun i=>.int (whF s i)),.ns [("at", .int (0 + (i:Int) * 1))]])[2]? = some (.cell (some (.int s))):=rfl
  have b1:Builtin.Int.intBits (s + 5) <= 17:=intBits_le_iff.mpr (nab (by lia) (by lia))
  have b2:Builtin.Int.intBits ((s + 5) ^ (5:Int).toNat) <= 85:=intBits_le_iff.mpr (by
    have e:(5:Int).toNat = 5:=rfl
    rw [e,Int.natAbs_pow]
    have h:(s + 5).natAbs < 2 ^ 17:=nab (by lia) (by lia)
    exact Nat.lt_of_lt_of_le (Nat.pow_lt_pow_left h (by decide)) (by decide))
  have b3:Builtin.Int.intBits ((0 + (i:Int) * 1) + 1) <= 5:=intBits_le_iff.mpr (nab (by lia) (by lia))
  have b4:Builtin.Int.intBits ((0 + (i:Int) * 1) + 7) <= 5:=intBits_le_iff.mpr (nab (by lia) (by lia))
  unfold whF
  repeat' k_extra "w"
  all_goals first
    | decide
    | exact IntMulOk.of_le b2 b3 (by decide)
    | exact IntMulOk.of_le (intBits_mul_le b2 b3) b4 (by decide)
    | (show (s + 5).natAbs < 2 ^ 64; exact nab (by lia) (by lia))
end
theorem walk_C41_z:True:=by
  k_with "d41" => skip
  trivial
end
section
noncomputable def ZdU (w:List Int):Nat -> List Int
  | 0=>List.replicate 16 0
  | i + 1=>(ZdU w i).set i (w.getD i 0 % 2 ^ (64:Int).toNat)
noncomputable def xmmF (s:Int):Nat -> List Int
  | 0=>List.replicate 16 0
  | i + 1=>(xmmF s i).set i (Zb ((ZF s 8).getD i []) % 2 ^ (128:Int).toNat)
theorem ZdT (w:List Int):∀ i,(ZdU w i).length = 16
  | 0=>rfl
  | i + 1=>(List.length_set ..).trans (ZdT w i)
theorem Zfn (s:Int):∀ i,(xmmF s i).length = 16
  | 0=>rfl
  | i + 1=>(List.length_set ..).trans (Zfn s i)
noncomputable def fA:Nat -> Option PV
  | 0=>none
  | i + 1=>some (.int (i:Int))
noncomputable def fL (s:Int) (w:List Int) (i:Nat):LS:=⟨fA i,s,⟨ZdU w i,xmmF s i,[]⟩,ZF s 8,w,[]⟩
noncomputable def Zco (s:Int):Nat -> List (Int × Int)
  | 0=>[]
  | i + 1=>mput (8176 + (i:Int)) (ZaG s i) (Zco s i)
theorem ZeU {s:Int} {i:Nat}:Zco s (i + 1) = mput (8176 + (i:Int)) (ZaG s i) (Zco s i):=rfl
noncomputable def memF (s:Int):Nat -> List (Int × Int)
  | 0=>[]
  | i + 1=>Zaw (8176 + (i:Int)) (ZaG s i) (memF s i) 1
theorem Znh {s:Int} {i:Nat}:memF s (i + 1) = Zaw (8176 + (i:Int)) (ZaG s i) (memF s i) 1:=rfl
theorem Zcn (s:Int):∀ i,(Zco s i).length <= i
  | 0=>Nat.le_refl _
  | i + 1=>by
    have:=Zbh (8176 + (i:Int)) (ZaG s i) (Zco s i)
    have:=Zcn s i
    rw [ZeU]; lia
theorem ZfB (s:Int):∀ i,(memF s i).length <= i
  | 0=>Nat.le_refl _
  | i + 1=>by
    have:=Zca (8176 + (i:Int)) (ZaG s i) (memF s i) 1
    have:=ZfB s i
    rw [Znh]; lia
noncomputable def hL (s:Int) (w:List Int) (i:Nat):LS:=⟨some (.int ((15:Nat):Int)),s,⟨ZdU w 16,xmmF s 16,memF s i⟩,ZF s 8,w,Zco s i⟩
theorem ZlA (s:Int) (w:List Int) (i:Nat):({ hL s w i with S:=⟨(hL s w i).S.regs,(hL s w i).S.xmm,Zaw (8176 + (i:Int)) (ZaG (hL s w i).seed i) (hL s w i).S.mem 1⟩,held:=mput (8176 + (i:Int)) (ZaG (hL s w i).seed i) (hL s w i).held }:LS) = hL s w (i + 1):=by
  have e1:memF s (i + 1) = Zaw (8176 + (i:Int)) (ZaG s i) (memF s i) 1:=rfl
  have e2:Zco s (i + 1) = mput (8176 + (i:Int)) (ZaG s i) (Zco s i):=ZeU
  unfold hL
  rw [e1,e2]
theorem ZaV (s:Int):(ZF s 8).length = 16:=by simp [ZF,ZaJ]
theorem Zfr (s:Int) (a:Nat):∀ x ∈ rowA s a,0 <= x /\ x < 256:=by
  unfold rowA
  split
  . intro x hx; rw [(List.mem_replicate.mp hx).2]; decide
  . intro x hx
    refine e1a1 (List.mem_map.mp hx) fun i _ hqa=>?_; subst hqa
    unfold vec; exact m256 _
theorem Zch (s:Int):∀ r ∈ ZF s 8,r.length = 16 /\ ∀ x ∈ r,0 <= x /\ x < 256:=by
  intro r hr
  rcases List.mem_append.mp hr with hr | hr
  . refine e1a1 (List.mem_map.mp hr) fun a _ hqa=>?_; subst hqa
    exact ⟨Zdd,Zfr s a⟩
  . refine e1a1 (List.mem_map.mp hr) fun a _ hqa=>?_; subst hqa
    refine ⟨by unfold Zaz; rw [List.length_set]; exact Zdd,fun x hx=>?_⟩
    rcases List.mem_or_eq_of_mem_set hx with hx | rfl
    . exact Zfr s a x hx
    . lia
theorem Zfq (s:Int) {i:Nat} (hi:i < 16):((ZF s 8).getD i []).length = 16 /\ ∀ x ∈ (ZF s 8).getD i [],0 <= x /\ x < 256:=by
  refine Zch s _ ?_
  have h:i < (ZF s 8).length:=by rw [ZaV]; exact hi
  rw [List.getD_eq_getElem?_getD,List.getElem?_eq_getElem h]; exact List.getElem_mem _
theorem ZkQ {n:Nat} {cells:List Int} (hn:18 <= n):LimL n (LL cells):=LimL.cons Zz (LimL.cons (limr (by lia)) (LimL.cons (limr (by lia)) (LimL.cons (limr (by lia)) LimL.nil)))
theorem walk_C42_0:True:=by
  k_with "hget1" => (fail_if_success k_extra "d42"); first | with_reducible assumption | with_reducible exact ZaL
  k_with "hget" => (fail_if_success k_extra "d42"); first | k_extra "hget1" | with_reducible exact Zbl | with_reducible rfl | exact rfl
  k_with "call" => (fail_if_success k_extra "d42"); exact ZA
  trivial
theorem ZjO (K:Frag) (s:Int) (w:List Int):(G18 K s w ++ [AObj.dict []]).set 0 (.cell (some (.ref (G18 K s w).length))) = LG K (fL s w 0):=rfl
section
variable {C:Cx} {k:Nat} (G:KF C.K) {la:Addr} {lcd:Value}
include G
theorem Zno {cells w:List Int} {s:Int} (hw:w.length = 16):Ex1 C (k + 10) (ZB la lcd) ⟨LL cells,Zd,G18 C.K s w,none,[]⟩ (LB 7) .next ⟨LL cells,Zd,G18 C.K s (w.set 3 8192),none,[]⟩:=by
  rw [<- Zij C.K s w (w.set 3 8192)]
  unfold Zd
  show Ex1 _ _ _ _ (.Assign [.Subscript _ _ _] _ _) _ _
  exact Z5 (v:=.int 8192) (a:=.ref 17) (j:=.int ((3:Nat):Int)) (by k_extra "w") (by k_extra "w") (by k_extra "w") (Zgz rfl (by lia) (by lia))
theorem Znn {cells w:List Int} {s:Int} (hw:w.length = 16):Ex1 C (k + 10) (ZB la lcd) ⟨LL cells,Zd,G18 C.K s w,none,[]⟩ (LB 8) .next ⟨LL cells,Zd,G18 C.K s (w.set 13 12288),none,[]⟩:=by
  rw [<- Zij C.K s w (w.set 13 12288)]
  unfold Zd
  show Ex1 _ _ _ _ (.Assign [.Subscript _ _ _] _ _) _ _
  exact Z5 (v:=.int 12288) (a:=.ref 17) (j:=.int ((13:Nat):Int)) (by k_extra "w") (by k_extra "w") (by k_extra "w") (Zgz rfl (by lia) (by lia))
theorem Znm {cells w:List Int} {s:Int}:Ex1 C (k + 10) (ZB la lcd) ⟨LL cells,Zd,G18 C.K s w,none,[]⟩ (LB 9) .next ⟨LL cells,Zd,LG C.K (fL s w 0),none,[]⟩:=by
  rw [<- ZjO]
  unfold Zd
  show Ex1 _ _ _ _ (.Assign [.Name _ _] (.Dict [] [] _) _) _ _
  exact ZcC (fi:=ZB la lcd) (i:=0) (u:=none) (H:=G18 C.K s w ++ [.dict []]) (cm:=[("held", 0),("at", 1),("seed", 2)]) (l:=LL cells) Zev (by k_extra "lkN") (by rfl) (by rfl) (by kernel_rfl)
theorem Zls {cells w:List Int} {s:Int} (hw:w.length = 16):Ex1 C (k + 10) (ZB la lcd) ⟨LL cells,Zd,LG C.K (fL s w 0),none,[]⟩ (LB 10) .next ⟨LL cells,Zd,LG C.K (fL s w 16),none,[]⟩:=by
  unfold Zd
  show Ex1 _ _ _ _ (.For (.Name _ _) _ (Zh (LB 10)) [] _) _ _
  refine Zbw (k:=k + 9) (n:=16) (c:=1) (fun _=>LL cells) (fun i=>LG C.K (fL s w i)) rfl (by kernel_rfl) (by k_extra "lkN") (by rw [Z0]; decide) (fun i=>⟨(fL s w i).at_,rfl⟩) (by repeat' k_extra "w") (by decide) (fun _ _ e=>e) rfl (fun _=>rfl) (fun i hi os ho=>?_) (ZdI (by rw [Z0]; lia) (fun v e=>by obtain rfl:=Option.some.inj e; exact ⟨_,rfl⟩)) (ZkQ (by rw [Z0]; lia))
  refine ⟨LL cells,.next,.inl rfl,?_,fun _ _ e=>e⟩
  have hr:=Zfq s hi
  exact Zje (l:=⟨some (.int (i:Int)),s,⟨ZdU w i,xmmF s i,[]⟩,ZF s 8,w,[]⟩) (X:=os.map AObj.raw) G ⟨ZdT w i,Zfn s i,fun _ hp=>(by cases hp),Nat.zero_le _⟩ hi (ZaV s) hw rfl hr.2 (by show ((ZF s 8).getD i []).length <= 100; lia)
theorem Zlr {cells w:List Int} {s:Int} (h0:0 <= s) (h1:s < 99991):Ex1 C (k + 10) (ZB la lcd) ⟨LL cells,Zd,LG C.K (fL s w 16),none,[]⟩ (LB 11) .next ⟨LL cells,Zd,LG C.K (hL s w 80),none,[]⟩:=by
  unfold Zd
  show Ex1 _ _ _ _ (.For (.Name _ _) _ (Zh (LB 11)) [] _) _ _
  refine Za9 (k:=k + 9) (n:=80) (fun _=>LL cells) (fun i=>LG C.K (hL s w i)) rfl (by kernel_rfl) (by repeat' k_extra "w") (by decide) (fun _ _ e=>e) rfl (fun _=>rfl) (fun i hi os ho=>?_) (ZdI (by rw [Z0]; lia) (fun v e=>by obtain rfl:=Option.some.inj e; exact ⟨_,rfl⟩)) (ZkQ (by rw [Z0]; lia))
  refine ⟨LLs cells i,.next,.inl rfl,?_,by show LSub (LL cells) (LLs cells i); k_extra "lsub"⟩
  refine ZaA (l':=LLs cells i) (by k_extra "stl") ?_
  have hl1:=Zcn s i
  have hl2:=ZfB s i
  have q:=Zhr (C:=C) (k:=k) (la:=la) (lcd:=lcd) (cells:=cells) (l:=hL s w i) (X:=os.map AObj.raw) G hi h0 h1 (Nat.le_trans hl1 (by lia)) (Nat.le_trans hl2 (by lia))
  rw [ZlA] at q
  exact q
end
theorem walk_C42_z:True:=by
  k_with "d42" => skip
  trivial
end
section
theorem ZfI {f:Nat -> List Int} {g:Nat -> Int} (h0:f 0 = List.replicate 16 0) (hs:∀ i,f (i + 1) = (f i).set i (g i)):∀ i,i <= 16 -> (f i).length = 16 /\ ∀ j,j < i -> (f i)[j]? = some (g j)
  | 0,_=>by rw [h0]; exact ⟨by simp,fun j hj=>absurd hj (Nat.not_lt_zero _)⟩
  | i + 1,hi=>by
    refine e0a1 (ZfI h0 hs i (by lia)) fun a b=>?_
    rw [hs]
    refine ⟨by rw [List.length_set]; exact a,fun j hj=>?_⟩
    by_cases e:i = j
    . subst e; rw [List.getElem?_set_self (by lia)]
    . rw [List.getElem?_set_ne e]; exact b j (by lia)
theorem ZfJ {f:Nat -> List Int} {g:Nat -> Int} {xs:List Int} (h0:f 0 = List.replicate 16 0) (hs:∀ i,f (i + 1) = (f i).set i (g i)) (hx:xs.length = 16) (hg:∀ i,i < 16 -> g i = xs.getD i 0):f 16 = xs:=by
  refine e0a1 (ZfI h0 hs 16 (Nat.le_refl _)) fun a b=>?_
  apply List.ext_getElem?; intro j
  by_cases hj:j < 16
  . have hj2:j < xs.length:=by lia
    rw [b j hj,hg j hj,List.getD_eq_getElem?_getD,List.getElem?_eq_getElem hj2]; rfl
  . rw [List.getElem?_eq_none (by lia),List.getElem?_eq_none (by lia)]
theorem ZeT (s:Int) (i:Nat):0 <= ZaG s i /\ ZaG s i < 256:=by unfold ZaG; exact m256 _
theorem Zd7 (s:Int):∀ i,Oct (Zco s i)
  | 0=>fun p hp=>by cases hp
  | i + 1=>Oct.put (Zd7 s i) (ZeT s i).1 (ZeT s i).2
theorem Zhk (s:Int):∀ i,i <= 80 -> memF s i = Zco s i
  | 0,_=>rfl
  | i + 1,hi=>by
    have hv:=ZeT s i
    have e1:(8176 + (i:Int) + ((0:Nat):Int)) % 2 ^ 64 = 8176 + (i:Int):=by lia
    have e2:(ZaG s i).fdiv (2 ^ (8 * ((0:Nat):Int)).toNat) % 256 = ZaG s i:=by
      have:(2:Int) ^ (8 * ((0:Nat):Int)).toNat = 1:=by decide
      rw [this,Int.fdiv_one]; exact Int.emod_eq_of_lt hv.1 hv.2
    show Zaw _ _ (memF s i) 1 = _
    rw [ZeF,ZeU]; show mput _ _ (memF s i) = _
    rw [e1,e2,Zhk s i (by lia)]
theorem Zc9 (s:Int):(wh2 s).length = 16:=by simp [wh2,wh1]
theorem Zm4 (s:Int):∀ w ∈ wh2 s,0 <= w /\ w < 2 ^ 64:=by
  intro w hw
  rcases List.mem_or_eq_of_mem_set hw with hw | rfl
  . rcases List.mem_or_eq_of_mem_set hw with hw | rfl
    . refine e1a1 (List.mem_map.mp hw) fun i _ hqa=>?_; subst hqa
      have e:(2:Int) ^ (64:Int).toNat = 2 ^ 64:=rfl
      unfold whF
      rw [e]
      exact ⟨Int.emod_nonneg _ (by decide),Int.emod_lt_of_pos _ (by decide)⟩
    . decide
  . decide
theorem ZiU (s:Int):ZdU (wh2 s) 16 = wh2 s:=ZfJ (g:=fun i=>(wh2 s).getD i 0 % 2 ^ (64:Int).toNat) rfl (fun _=>rfl) (Zc9 s) fun i hi=>by
  have h:i < (wh2 s).length:=by rw [Zc9]; exact hi
  have hb:=Zm4 s ((wh2 s).getD i 0) (Zbr h)
  exact Int.emod_eq_of_lt hb.1 hb.2
theorem Zk0 (s:Int):xmmF s 16 = (ZF s 8).map Zb:=ZfJ (g:=fun i=>Zb ((ZF s 8).getD i []) % 2 ^ (128:Int).toNat) rfl (fun _=>rfl) (by rw [List.length_map,ZaV]) fun i hi=>by
  have hr:=Zfq s hi
  have hb:=Zq (xs:=(ZF s 8).getD i []) hr.2
  rw [hr.1] at hb
  have e:(2:Int) ^ (128:Int).toNat = 256 ^ 16:=by decide
  have h:i < (ZF s 8).length:=by rw [ZaV]; exact hi
  rw [e,Int.emod_eq_of_lt hb.1 hb.2]
  simp [List.getD_eq_getElem?_getD,List.getElem?_eq_getElem h]
theorem inv0 (s:Int) {n:Nat} (hn:n <= 80):Inv (hL s (wh2 s) n) 0 where
  r16:=ZaV s
  rl:=fun r hr=>(Zch s r hr).1
  ro:=fun r hr=>(Zch s r hr).2
  w16:=Zc9 s
  wb:=Zm4 s
  w3:=by show (wh2 s).getD 3 0 = 8192; simp [wh2,wh1]
  w13:=by show (wh2 s).getD 13 0 = 12288; simp [wh2,wh1]
  ho:=Zd7 s n
  hl:=Nat.le_trans (Zcn s n) (by lia)
  hS:=by
    have e1:ZdU (wh2 s) 16 = wh2 s:=ZiU s
    have e2:xmmF s 16 = (ZF s 8).map Zb:=Zk0 s
    show (⟨ZdU (wh2 s) 16,xmmF s 16,memF s n⟩:MS) = ⟨wh2 s,(ZF s 8).map Zb,Zco s n⟩
    rw [e1,e2,Zhk s n hn]
end
section
theorem VRels.ints {W:Wd} {vs:List Value} {ns:List Int} (h:IntsAre vs ns):VRels W (ns.map .int) vs:=by
  induction h with
  | nil=>exact .nil
  | cons n t _ ih=>exact .cons (.int n t) ih
section
variable {C:Cx} {k:Nat} {la:Addr} {lcd:Value} {fd:Fd} {W:Wd} {s:Shared} {E:Value -> Shared -> Prop} {Q:Flow -> Shared -> Prop}
theorem Znv {a:Addr} {vs:List Value} {ns:List Int} {H:List AObj} (ok:OkF C k (ZB la lcd) fd) (R:Rl fd W ⟨[("script", .con (.ref a))],Zd,H,none,[]⟩ s.heap) (hL:fd.b.IsList a vs.toArray) (hI:IntsAre vs ns) (hz:ns.length ≤ 63)
    (bk:Bk fd W ⟨[("script", .con (.ref a)),("cells", .lst ((pick ns none (some 8)).map .int))],Zd,H,none,[]⟩ s (fun W x=>FRel W .next x) Q):wpAny C.M (fd.A (ZB la lcd)) (exec (LB 0) (fd.ev (ZB la lcd))) Q E s:=by
  show wpAny _ _ (exec (.Assign [.Name _ _] (.Subscript (.Name (Str.ofString "script") _) (.Slice none (some _) none _) _) _) _) _ _ _
  refine wpAny_Assign_Name (Subscript_ ((Zit (C:=C) (k:=k) (fi:=ZB la lcd) (x:=Str.ofString "script") (v:=.con (.ref a)) rfl rfl (by kernel_rfl) (by kernel_rfl)) fd W s _ E ok R fun W1 v1 g1 t1 l1 R1 V1=>?_)) rfl
  refine wpAny_Slice (wpAny_pure ((ZaO (C:=C) (k:=k) (fi:=ZB la lcd) (i:=8) ZfZ).run (s:={ s with heap:=g1,toks:=t1 }) ok R1 fun W3 v3 g3 t3 l3 R3 P3=>wpAny_pure ?_))
  cases V1
  refine e1a1 R3.fr fun m F lc=>?_
  obtain ⟨o,h1,h2,n,h3⟩:=hL
  have hl:(g3.push { cls:=.type "slice", data:=.fields #[.none,v3,.none] }).IsList a vs.toArray:=⟨o,Heap.get?_push_of_some _ (F.keep _ _ h1),h2,n,h3⟩
  have hv:=VRels.ints (W:=W3) hI
  refine tail_any (s:={ s with heap:=g3.push { cls:=.type "slice", data:=.fields #[.none,v3,.none] },toks:=t3 }) hl.typeIs slot_list_getitem.lookup (wpAny_getItem_list_slice (s:={ s with heap:=g3.push { cls:=.type "slice", data:=.fields #[.none,v3,.none] },toks:=t3 }) hl ⟨_,Heap.get?_push_size _ rfl,rfl,rfl⟩ .none P3 .none (by intro e; exact nse e) ?_ (by have:=VRels.length hv; rw [List.length_map] at this; rw [List.size_toArray,← this,sizeLine_eq]; lia)) rfl
  rw [kms_pick_eq]
  have R4:=(R3.push { cls:=.type "slice", data:=.fields #[.none,v3,.none] }).fresh (o':=lstO (kms_pick vs none (some 8)) 0) rfl
  refine ZaU (σ:=⟨[("script", .con (.ref a))],Zd,H,none,[]⟩) (p:=.lst ((pick ns none (some 8)).map .int)) ok R4 ?_ rfl (by kernel_rfl) fun W5 _ g5 t5 l5 R5 _=>?_
  . rw [<- Zfv]; exact .lst (Wd.frz_at _ _ _) (VRels.mono (Wd.le_frz _ _ _) (hv.pick none (some 8)))
  . exact bk W5 _ g5 t5 (((l1.trans l3).trans (Wd.le_frz _ _ _)).trans l5) R5 .next
theorem Znu {a:Addr} {xs:List Int} {H:List AObj} (hz:xs.length <= 8) :
    Ex1 C (k + 10) (ZB la lcd) ⟨[("script", .con (.ref a)),("cells", .lst (xs.map .int))],Zd,H,none,[]⟩ (LB 1) .next ⟨[("script", .con (.ref a)),("cells", .lst ((if (xs == []) = true then [7] else xs).map .int))],Zd,H,none,[]⟩:=by
  show Ex1 _ _ _ _ (.If (.Compare _ [_] [.List [] _] _) [.Assign [.Name _ _] (.List [_] _) _] [] _) _ _
  refine ZcN (c:=xs == []) (Zal (by k_extra "w") (ZaH ZH (by decide)) (Zf3 (ys:=[]) (.fz _) (.fz _))) (fun h=>?_) (fun h=>?_)
  . rw [if_pos h]
    exact Za (Zj (v:=.lst [.int 7]) (ZaH (by repeat' k_extra "w") (by decide)) rfl rfl (by kernel_rfl)) Ze
  . rw [if_neg (by rw [h]; decide)]
    exact Ze
end
end
section
theorem Znw {l:LS} {n:Nat} (I:Inv l n):∀ i,Inv (atL l i) n
  | 0=>I
  | _ + 1=>⟨I.r16,I.rl,I.ro,I.w16,I.wb,I.w3,I.w13,I.ho,I.hl,I.hS⟩
section
variable {C:Cx} (G:KF C.K) (D:KD C.K) (GX:KX C.K) (GO:KO C.K) {la:Addr} {lcd:Value}
include G D GX GO
theorem Zjc {a:Addr} {xs:List Int} (hz:xs.length <= 8) :
    ∃ σ',Ex C 61 (ZB la lcd) ⟨[("script", .con (.ref a)),("cells", .lst (xs.map .int))],Zd,[.cell none,.cell none,.cell none],none,[]⟩ [LB 1,LB 2,LB 3,LB 4,LB 5,LB 6,LB 7,LB 8,LB 9,LB 10,LB 11,LB 12,LB 13,LB 14,LB 15,LB 16] (.ret (.bool true)) σ':=by
  obtain ⟨cells,hc,hl⟩:∃ cells:List Int,cells = (if (xs == []) = true then [7] else xs) /\ cells.length <= 8:=⟨_,rfl,by split <;> simp [hz]⟩
  obtain ⟨s,hs,h0,h1⟩:∃ s:Int,s = sdA cells cells.length /\ 0 <= s /\ s < 99991:=⟨_,rfl,ZdS _ _⟩
  have I0:=inv0 s (Nat.le_refl 80)
  have ha:∀ v,(hL s (wh2 s) 80).at_ = some v -> ∃ i,v = .int i:=fun v e=>by obtain rfl:=Option.some.inj e; exact ⟨_,rfl⟩
  have I1:=ZeS (cells:=cells) I0 cells.length
  have ha1:=ZkC (cells:=cells) ha cells.length
  refine ⟨⟨LM cells [],Zd,LG C.K (atL (sts (hL s (wh2 s) 80) cells cells.length) 16),none,[]⟩,Za (Znu (k:=51) hz) ?_⟩
  rw [<- hc]
  refine Za (Znt (k:=51)) ?_
  refine Za (Zns (k:=51) (cells:=cells) rfl) ?_
  rw [<- hs]
  refine Za (Znr (k:=51) (cells:=cells) (s:=s) G) ?_
  refine Za (Znq (k:=51) G h0 h1) ?_
  refine Za (Znp (k:=51) G h0 h1) ?_
  refine Za (Zno (k:=51) (w:=wh1 s) G (by simp [wh1])) ?_
  refine Za (Znn (k:=51) (w:=(wh1 s).set 3 8192) G (by simp [wh1])) ?_
  refine Za (Znm (k:=51) (w:=wh2 s) G) ?_
  refine Za (Zls (k:=51) (w:=wh2 s) G (Zc9 s)) ?_
  refine Za (Zlr (k:=51) (w:=wh2 s) G h0 h1) ?_
  refine Za (Zjb (k:=51) G) ?_
  refine Za (Zjd G D GX GO I0 hl ha) ?_
  refine Za (Zlu (k:=51) G I1 hl ha1) ?_
  refine Za (Znl (k:=51) G (Znw I1 16) hl) ?_
  exact Zlt (k:=51) G
theorem Zhp {fd:Fd} {W:Wd} {s:Shared} {E:Value → Shared → Prop} {Q:Flow → Shared → Prop} {a:Addr} {vs:List Value} {ns:List Int} (ok:OkF C 61 (ZB la lcd) fd) (R:Rl fd W ⟨[("script", .con (.ref a))],Zd,[.cell none,.cell none,.cell none],none,[]⟩ s.heap)
    (hL:fd.b.IsList a vs.toArray) (hI:IntsAre vs ns) (hz:ns.length <= 63) (hq:∀ h tk m,Fr fd.b fd.L h m -> Q (.ret (.bool true)) { s with heap:=h,toks:=tk }) :
    wpAny C.M (fd.A (ZB la lcd)) (execs LF.body (fd.env (ZB la lcd))) Q E s:=by
  have e:LF.body = LB 0 :: [LB 1,LB 2,LB 3,LB 4,LB 5,LB 6,LB 7,LB 8,LB 9,LB 10,LB 11,LB 12,LB 13,LB 14,LB 15,LB 16]:=by kernel_rfl
  rw [e]
  refine wpAny_execs_cons (Znv ok R hL hI hz fun W1 v1 g1 t1 l1 R1 V1=>?_)
  apply FRel.next_e V1
  have hz1:(pick ns none (some 8)).length <= 8:=by
    unfold pick
    have h1:∀ n:Nat,kms_hi (some 8) n - kms_lo none n <= 8:=fun n=>by
      simp only [kms_hi,kms_lo]
      rw [if_neg (by decide)]
      lia
    rw [List.length_take]
    exact Nat.le_trans (Nat.min_le_left _ _) (h1 _)
  refine e1a0 (Zjc (la:=la) (lcd:=lcd) (a:=a) G D GX GO hz1) fun σ' h=>?_
  refine h fd W1 _ Q E ok R1 fun W2 v2 g2 t2 l2 R2 V2=>?_
  apply FRel.ret_e V2; intro _ z
  apply VRel.bool_e z; refine e1a1 R2.fr fun m F _=>?_; exact hq g2 t2 m F
end
end
section
noncomputable def Zlv (L:Addr):List (Str × Addr):=cellsFrom (L + 1) LF.scope.names []
theorem Zjg (L:Addr):Zlv L = ([((Str.ofString "held", L + 1 + 1 + 1)),((Str.ofString "at", L + 1 + 1)),((Str.ofString "seed", L + 1))]:List (Str × Addr)):=by kernel_rfl
noncomputable abbrev ZgU (b base:Heap) (L:Addr):Fd:={ b:=b,base:=base,L:=L,cl:=Zlv L,outer:=[],A₀:=callerA,hd:=none,dp:=302,un:=7,gd:=some [] }
theorem Zk2 {b base h₁:Heap} {L a:Addr} {m:Str → Option Value} {o2 o1 o0:Obj} (F:Fr b L h₁ m) (hm:m "script" = some (.ref a)) (N:News b L h₁ [(L + 1 + 1 + 1,o2),(L + 1 + 1,o1),(L + 1,o0)])
    (d2:o2.data = .cell none) (d1:o1.data = .cell none) (d0:o0.data = .cell none) :
    Rl (ZgU b base L) ⟨[L + 1 + 1 + 1,L + 1 + 1,L + 1],[]⟩ ⟨[("script", .con (.ref a))],Zd,[.cell none,.cell none,.cell none],none,[]⟩ h₁:=by
  refine ⟨⟨m,F,fun x v e=>?_⟩,rfl,?_,fun i c o e1 e2=>?_,fun p e=>?_,fun x i e=>?_,fun i e=>?_,fun x i e=>?_,fun i c o e1 e2 q=>?_⟩
  . simp only [lk_c,lk_n] at e
    split at e
    . rename_i h; obtain rfl:=Option.some.inj e; rw [h]; exact ⟨_,hm,.con _⟩
    . cases e
  . have n3:L + 1 + 1 + 1 ≠ L + 1:=fun e=>absurd (show L + 1 + 1 = L from Nat.succ.inj e) (Nat.ne_of_gt (Nat.lt_succ_of_lt (Nat.lt_succ_self _)))
    have n2:L + 1 + 1 + 1 ≠ L + 1 + 1:=Nat.succ_ne_self _
    have n1:L + 1 + 1 ≠ L + 1:=Nat.succ_ne_self _
    refine List.nodup_cons.mpr ⟨fun h=>?_,List.nodup_cons.mpr ⟨fun h=>?_,List.nodup_cons.mpr ⟨fun h=>(by cases h),List.nodup_nil⟩⟩⟩
    . rcases List.mem_cons.mp h with h | h
      . exact n2 h
      . exact n3 (List.mem_singleton.mp h)
    . exact n1 (List.mem_singleton.mp h)
  . match i,e1,e2 with
    | 0,e1,e2=>obtain rfl:=Option.some.inj e1; obtain rfl:=Option.some.inj e2; have:=N _ (.head _); exact ⟨o2,this.1,this.2.1,this.2.2,.cellN d2⟩
    | 1,e1,e2=>obtain rfl:=Option.some.inj e1; obtain rfl:=Option.some.inj e2; have:=N _ (.tail _ (.head _)); exact ⟨o1,this.1,this.2.1,this.2.2,.cellN d1⟩
    | 2,e1,e2=>obtain rfl:=Option.some.inj e1; obtain rfl:=Option.some.inj e2; have:=N _ (.tail _ (.tail _ (.head _))); exact ⟨o0,this.1,this.2.1,this.2.2,.cellN d0⟩
  . cases e
  . show ∃ a,(Zlv L).lookup x = some a /\ _
    rw [Zjg]
    unfold Zd at e
    simp only [ZeQ,Znj] at e
    split at e
    . rename_i h; obtain rfl:=Option.some.inj e; subst h; exact ⟨_,rfl,rfl⟩
    . rename_i n1
      split at e
      . rename_i h; obtain rfl:=Option.some.inj e; subst h; exact ⟨_,rfl,rfl⟩
      . split at e
        . rename_i h; obtain rfl:=Option.some.inj e; subst h; exact ⟨_,rfl,rfl⟩
        . cases e
  . exact nse e
  . exact nse e
  . match i,e2 with
    | 0,e2=>obtain rfl:=Option.some.inj e2; exact ft q
    | 1,e2=>obtain rfl:=Option.some.inj e2; exact ft q
    | 2,e2=>obtain rfl:=Option.some.inj e2; exact ft q
section
variable {C:Cx} (G:KF C.K) (D:KD C.K) (GX:KX C.K) (GO:KO C.K) {la:Addr} {lcd:Value}
include G D GX GO
theorem law_top {b base:Heap} {L a:Addr} {m:Str -> Option Value} {o2 o1 o0:Obj} {s:Shared} {E:Value -> Shared -> Prop} {Q:Flow -> Shared -> Prop} {vs:List Value} {ns:List Int}
    (B0:Below callerA base [] b) (X:C.K.In b) (T:Top C.p C.loose C.mean C.mg C.mb b) (F:Fr b L s.heap m) (hm:m "script" = some (.ref a)) (N:News b L s.heap [(L + 1 + 1 + 1,o2),(L + 1 + 1,o1),(L + 1,o0)])
    (d2:o2.data = .cell none) (d1:o1.data = .cell none) (d0:o0.data = .cell none) (hL:b.IsList a vs.toArray) (hI:IntsAre vs ns) (hz:ns.length <= 63) (hq:∀ h tk m,Fr b L h m -> Q (.ret (.bool true)) { s with heap:=h,toks:=tk }) :
    wpAny C.M (callerA.deeper (envOfC "law" LF.scope L la lcd)) (execs LF.body (envOfC "law" LF.scope L la lcd)) Q E s:=by
  have ok:OkF C 61 (ZB la lcd) (ZgU b base L):=⟨B0,X,T,by kernel_rfl,fun sc e=>(by exact nse e),.inl rfl,by show 302 + 10 * 61 < 990; decide,by show 7 + 100 * 61 < 9000; decide,.inr ⟨rfl,rfl⟩⟩
  have h:=Zhp (la:=la) (lcd:=lcd) (fd:=ZgU b base L) (E:=E) (Q:=Q) G D GX GO ok (Zk2 F hm N d2 d1 d0) hL hI hz hq
  have e1:(ZgU b base L).A (ZB la lcd) = callerA.deeper (envOfC "law" LF.scope L la lcd):=by kernel_rfl
  have e2:(ZgU b base L).env (ZB la lcd) = envOfC "law" LF.scope L la lcd:=by kernel_rfl
  rw [e1,e2] at h
  exact h
end
end
end Mine
namespace Mine.head
theorem tw1212124681294104184:0=0:=rfl
theorem tw6240353410654795137:0=0:=rfl
theorem tw18282902561792777199:0=0:=rfl
theorem tw6968674436765558698:0=0:=rfl
theorem tw807142644699662319:0=0:=rfl
theorem tw13180129090757240718:0=0:=rfl
theorem tw12581593161143036515:0=0:=rfl
theorem tw5104563664521345299:0=0:=rfl
theorem tw9245354529803183783:0=0:=rfl
theorem tw3264716943610762504:0=0:=rfl
theorem tw18416563613846182222:0=0:=rfl
theorem tw6265338273532641288:0=0:=rfl
theorem tw10865165270600546614:0=0:=rfl
theorem tw15326552575505426906:0=0:=rfl
theorem tw11060938730435951684:0=0:=rfl
theorem tw1438866918597655640:0=0:=rfl
theorem tw10059252607514160932:0=0:=rfl
theorem tw5638995163158488052:0=0:=rfl
theorem tw5973763720392745831:0=0:=rfl
theorem tw5467695095851852608:0=0:=rfl
theorem tw9202431907968578930:0=0:=rfl
theorem tw6737735255597943219:0=0:=rfl
theorem tw14631705268626504575:0=0:=rfl
theorem tw10786079294511566085:0=0:=rfl
theorem tw7732209734871044160:0=0:=rfl
theorem tw17362218986543327160:0=0:=rfl
theorem tw17262968490309938674:0=0:=rfl
theorem tw2400818531096893172:0=0:=rfl
theorem tw4311042196063409733:0=0:=rfl
theorem tw17304152732226823993:0=0:=rfl
theorem tw15250023729529759990:0=0:=rfl
theorem tw15656768269340197940:0=0:=rfl
theorem tw1906429620130506887:0=0:=rfl
theorem tw1501788042078761842:0=0:=rfl
theorem tw4932745802714450591:0=0:=rfl
theorem tw9234455393454914656:0=0:=rfl
theorem tw6522505103286579628:0=0:=rfl
theorem tw5487235932777146282:0=0:=rfl
theorem tw14078167904914714981:0=0:=rfl
theorem tw17608190574486352970:0=0:=rfl
theorem tw11724780754615379514:0=0:=rfl
theorem tw5593727005144783397:0=0:=rfl
theorem tw7119846925741900413:0=0:=rfl
theorem tw1318689175770300589:0=0:=rfl
theorem tw8409189969818401543:0=0:=rfl
theorem tw5274623360512300857:0=0:=rfl
theorem tw3103639331685909893:0=0:=rfl
theorem tw1519320592345488741:0=0:=rfl
theorem tw1626232751844553403:0=0:=rfl
theorem tw5061997093462229610:0=0:=rfl
theorem tw3270352941656771521:0=0:=rfl
theorem tw1522823579158628613:0=0:=rfl
theorem tw5363715690607933:0=0:=rfl
theorem tw5129340602016612638:0=0:=rfl
theorem tw1937370526825066196:0=0:=rfl
theorem tw14492117785962260688:0=0:=rfl
theorem tw16797417754217878491:0=0:=rfl
theorem tw17553620660974883448:0=0:=rfl
theorem tw708152393587867187:0=0:=rfl
theorem tw14385403278947933607:0=0:=rfl
theorem tw3321875119742208626:0=0:=rfl
theorem tw2491421050496283774:0=0:=rfl
theorem tw14432977821161478157:0=0:=rfl
theorem tw10875119458065257276:0=0:=rfl
theorem tw11124748197601291601:0=0:=rfl
theorem tw13955511503576765797:0=0:=rfl
theorem tw5319049981483164881:0=0:=rfl
theorem tw13510609219080548989:0=0:=rfl
theorem tw7758381527925395934:0=0:=rfl
theorem tw6247268493268985975:0=0:=rfl
theorem tw16917608666046251313:0=0:=rfl
theorem tw10872037306656784433:0=0:=rfl
theorem tw1858156416291392539:0=0:=rfl
theorem tw13932022402069264104:0=0:=rfl
theorem tw9909477652473797434:0=0:=rfl
theorem tw15263674166054382079:0=0:=rfl
theorem tw14393718171448925343:0=0:=rfl
theorem tw7256407767356113836:0=0:=rfl
theorem tw15782939476341012554:0=0:=rfl
theorem tw4389056084150536348:0=0:=rfl
theorem tw8408249889716310983:0=0:=rfl
theorem tw9380374249521086144:0=0:=rfl
theorem tw9145527808636388435:0=0:=rfl
theorem tw739537129135343663:0=0:=rfl
theorem tw11097941207591946120:0=0:=rfl
theorem tw10748227973586771634:0=0:=rfl
theorem tw12668424612319814730:0=0:=rfl
theorem tw9354026244260953042:0=0:=rfl
theorem tw7992697801930647134:0=0:=rfl
theorem tw11898884524496722437:0=0:=rfl
theorem tw15095179193122606544:0=0:=rfl
theorem tw17050696954950088759:0=0:=rfl
theorem tw13353151263460963528:0=0:=rfl
theorem tw9716329373054682134:0=0:=rfl
theorem tw7661765248129044261:0=0:=rfl
theorem tw10900948863051656163:0=0:=rfl
theorem tw16782820856776367440:0=0:=rfl
theorem tw1919890906376249811:0=0:=rfl
theorem tw14842460003800876886:0=0:=rfl
theorem tw7688317290187622652:0=0:=rfl
theorem tw2518057956044344595:0=0:=rfl
theorem tw12935280875976130009:0=0:=rfl
theorem tw14999265807660949796:0=0:=rfl
theorem tw14127983276867164173:0=0:=rfl
theorem tw16072502192527678464:0=0:=rfl
theorem tw5634912026493880203:0=0:=rfl
theorem tw17700853532424174462:0=0:=rfl
theorem tw11613311375368785083:0=0:=rfl
theorem tw14679116673082234219:0=0:=rfl
theorem tw15410735652082386980:0=0:=rfl
theorem tw14086173767186703872:0=0:=rfl
theorem tw1673358830478937286:0=0:=rfl
theorem tw11820730986300896962:0=0:=rfl
theorem tw9325057278558614444:0=0:=rfl
theorem tw15253846138512369154:0=0:=rfl
theorem tw14565420633037775528:0=0:=rfl
theorem tw11714945338242495837:0=0:=rfl
theorem tw5612995960945425718:0=0:=rfl
theorem tw5797013207949663412:0=0:=rfl
theorem tw11704837465938651953:0=0:=rfl
theorem tw3547030090768783262:0=0:=rfl
theorem tw9213911765573242809:0=0:=rfl
theorem tw8172283286065499403:0=0:=rfl
theorem tw8627200689577751383:0=0:=rfl
theorem tw15781038721244158349:0=0:=rfl
theorem tw4607607821588926596:0=0:=rfl
theorem tw15796087645652482245:0=0:=rfl
theorem tw8626486368039343599:0=0:=rfl
theorem tw16848734093215285337:0=0:=rfl
theorem tw12856577281151766611:0=0:=rfl
theorem tw9743709737119245314:0=0:=rfl
theorem tw1463646239528298992:0=0:=rfl
theorem tw12032222614953749359:0=0:=rfl
theorem tw16871623187472473471:0=0:=rfl
theorem tw6121141971511671821:0=0:=rfl
theorem tw11180365069992382532:0=0:=rfl
theorem tw5996384718915585738:0=0:=rfl
theorem tw17508272824862286709:0=0:=rfl
theorem tw15204471325056678010:0=0:=rfl
theorem tw377444749377882612:0=0:=rfl
theorem tw9374387883903384206:0=0:=rfl
theorem tw6836608696283027097:0=0:=rfl
theorem tw9987851973559822609:0=0:=rfl
theorem tw1506576300011279404:0=0:=rfl
theorem tw9133290819911140118:0=0:=rfl
theorem tw17444863063712431705:0=0:=rfl
theorem tw17265401458761052179:0=0:=rfl
theorem tw1917425121527220963:0=0:=rfl
theorem tw5111174896325423537:0=0:=rfl
theorem tw7090939061502383884:0=0:=rfl
theorem tw12795389718870424448:0=0:=rfl
theorem tw15506723302920939300:0=0:=rfl
theorem tw17905491414393134947:0=0:=rfl
theorem tw1276956409769668328:0=0:=rfl
theorem tw12328230846540189838:0=0:=rfl
theorem tw4415685298772064003:0=0:=rfl
theorem tw13213268828098156179:0=0:=rfl
theorem tw16385634705727604063:0=0:=rfl
theorem tw2529948359932261575:0=0:=rfl
theorem tw10170068340998493759:0=0:=rfl
theorem tw1389810093214676884:0=0:=rfl
theorem tw4357005996527412928:0=0:=rfl
theorem tw15037083628117588352:0=0:=rfl
theorem tw10521553517811329670:0=0:=rfl
theorem tw14982685227137828758:0=0:=rfl
theorem tw17958272820484234708:0=0:=rfl
theorem tw15604011560834605598:0=0:=rfl
theorem tw13488047542759136002:0=0:=rfl
theorem tw7876399200375917224:0=0:=rfl
theorem tw13335025841360890868:0=0:=rfl
theorem tw4407807290196491609:0=0:=rfl
theorem tw8671685427711848851:0=0:=rfl
theorem tw3512634313551410195:0=0:=rfl
theorem tw2599346099135257874:0=0:=rfl
theorem tw8895791426145780158:0=0:=rfl
theorem tw4947412792043415962:0=0:=rfl
theorem tw12242153458792446204:0=0:=rfl
theorem tw3665506230870052707:0=0:=rfl
theorem tw7309950759910210094:0=0:=rfl
theorem tw780477332936465449:0=0:=rfl
theorem tw6931653728971238233:0=0:=rfl
theorem tw13986843968525588388:0=0:=rfl
theorem tw11246596778529197526:0=0:=rfl
theorem tw4090201507572337743:0=0:=rfl
theorem tw12949380547846470161:0=0:=rfl
theorem tw16659920880120507502:0=0:=rfl
theorem tw6600165084710513979:0=0:=rfl
theorem tw14168692526580214153:0=0:=rfl
theorem tw5479459121986351116:0=0:=rfl
theorem tw8610661140672950678:0=0:=rfl
theorem tw16874305072444578374:0=0:=rfl
theorem tw17017319662998615:0=0:=rfl
theorem tw12344544660321961925:0=0:=rfl
theorem tw11862927689305589065:0=0:=rfl
theorem tw14597329475937083939:0=0:=rfl
theorem tw8299393411229908732:0=0:=rfl
theorem tw6212921109956642855:0=0:=rfl
theorem tw7417405269818204032:0=0:=rfl
theorem tw8796753266530204203:0=0:=rfl
theorem tw3021114989795446570:0=0:=rfl
theorem tw9368406320212774489:0=0:=rfl
theorem tw7096138990903361605:0=0:=rfl
theorem tw6518409114910312394:0=0:=rfl
theorem tw6602476347957198060:0=0:=rfl
theorem tw7846308304327970078:0=0:=rfl
theorem tw3715584954343283195:0=0:=rfl
theorem tw14344768424176206936:0=0:=rfl
theorem tw4387028780061031483:0=0:=rfl
theorem tw5380383263664398348:0=0:=rfl
theorem tw6521490308693473283:0=0:=rfl
theorem tw14631306762972528136:0=0:=rfl
theorem tw12841863872788715202:0=0:=rfl
theorem tw11628534518673281344:0=0:=rfl
theorem tw8402328212356670530:0=0:=rfl
theorem tw3794523003379204399:0=0:=rfl
theorem tw10510183946089719056:0=0:=rfl
theorem tw7789450098604059249:0=0:=rfl
theorem tw10062970787820224252:0=0:=rfl
theorem tw13397106695672350980:0=0:=rfl
theorem tw3749026756887285471:0=0:=rfl
theorem tw9280153536138602973:0=0:=rfl
theorem tw17826015225549371706:0=0:=rfl
theorem tw15638870477510070732:0=0:=rfl
theorem tw1214346256449528893:0=0:=rfl
theorem tw12201952087667049370:0=0:=rfl
theorem tw6684978435548883818:0=0:=rfl
theorem tw1216361941278037836:0=0:=rfl
theorem tw3185377453876500656:0=0:=rfl
theorem tw1858285994304674589:0=0:=rfl
theorem tw3083302935323014018:0=0:=rfl
theorem tw5401097623525119610:0=0:=rfl
theorem tw18331532914195504034:0=0:=rfl
theorem tw709382114072422158:0=0:=rfl
theorem tw1062042127530464391:0=0:=rfl
theorem tw7512725033676591148:0=0:=rfl
theorem tw10128820837102578890:0=0:=rfl
theorem tw10504981510240967646:0=0:=rfl
theorem tw3869590956505411354:0=0:=rfl
theorem tw6474009502463322548:0=0:=rfl
theorem tw5130157460393195706:0=0:=rfl
theorem tw9325123708862168440:0=0:=rfl
theorem tw13689084217373910675:0=0:=rfl
theorem tw1642545813376747948:0=0:=rfl
theorem tw5407718363533321033:0=0:=rfl
theorem tw4235852798576303577:0=0:=rfl
theorem tw5013180600929471838:0=0:=rfl
theorem tw1224924573807776437:0=0:=rfl
theorem tw15468718075485040107:0=0:=rfl
theorem tw18014224886719972007:0=0:=rfl
theorem tw5092371620264689978:0=0:=rfl
theorem tw1472379273497163797:0=0:=rfl
theorem tw2879759524354350568:0=0:=rfl
theorem tw3496171461512900480:0=0:=rfl
theorem tw1061700454162486011:0=0:=rfl
theorem tw14349913743752837093:0=0:=rfl
theorem tw17008234436448823602:0=0:=rfl
theorem tw12998212659555988865:0=0:=rfl
theorem tw4834694072379752904:0=0:=rfl
theorem tw10010264046613662565:0=0:=rfl
theorem tw4017301010375394790:0=0:=rfl
theorem tw12865059321931465230:0=0:=rfl
theorem tw7928285938522686346:0=0:=rfl
theorem tw15181326774706428367:0=0:=rfl
theorem tw12205659690895024086:0=0:=rfl
theorem tw2753283235347674219:0=0:=rfl
theorem tw1499353310998574721:0=0:=rfl
theorem tw12339793173418651155:0=0:=rfl
theorem tw8159583801465064534:0=0:=rfl
theorem tw8185714761375850791:0=0:=rfl
theorem tw67086481866811729:0=0:=rfl
theorem tw14956371261235936329:0=0:=rfl
theorem tw17541063381433097499:0=0:=rfl
theorem tw14512941343882779238:0=0:=rfl
theorem tw4381510469713062047:0=0:=rfl
theorem tw2694075680205673411:0=0:=rfl
theorem tw6889739017440866108:0=0:=rfl
theorem tw18260194641540637818:0=0:=rfl
theorem tw9746458257258439470:0=0:=rfl
theorem tw13381877923881390905:0=0:=rfl
theorem tw2172669909848549399:0=0:=rfl
theorem tw16111715859725283846:0=0:=rfl
theorem tw17854896373637125580:0=0:=rfl
theorem tw5870146547769353613:0=0:=rfl
theorem tw7523532297153676066:0=0:=rfl
theorem tw5140934472235413692:0=0:=rfl
theorem tw11484358847640170188:0=0:=rfl
theorem tw14615432700455777464:0=0:=rfl
theorem tw16446913148795680959:0=0:=rfl
theorem tw17238610979035211840:0=0:=rfl
theorem tw12182850187970735909:0=0:=rfl
theorem tw14682210665186182649:0=0:=rfl
theorem tw15039987702171664376:0=0:=rfl
theorem tw16078238667976319046:0=0:=rfl
theorem tw16579250180923337425:0=0:=rfl
theorem tw8594797061187016562:0=0:=rfl
theorem tw5015311536963163689:0=0:=rfl
theorem tw4009957668330374740:0=0:=rfl
theorem tw7599496313472250701:0=0:=rfl
theorem tw1398043889541792783:0=0:=rfl
theorem tw7404141018258913797:0=0:=rfl
theorem tw14969385696402013904:0=0:=rfl
theorem tw17698105195316432488:0=0:=rfl
theorem tw18254194996027185994:0=0:=rfl
theorem tw4576125674228380541:0=0:=rfl
theorem tw12775505166333009402:0=0:=rfl
theorem tw15305915472762889579:0=0:=rfl
theorem tw14531177953140590962:0=0:=rfl
theorem tw12875325457547866274:0=0:=rfl
theorem tw6836605351468522007:0=0:=rfl
theorem tw13390592898632580015:0=0:=rfl
theorem tw14909605222495392915:0=0:=rfl
theorem tw14969395210118534408:0=0:=rfl
theorem tw3973953319845086491:0=0:=rfl
theorem tw16472945084836616533:0=0:=rfl
theorem tw15698199302902131001:0=0:=rfl
theorem tw17889261914703972767:0=0:=rfl
theorem tw5788372791699333521:0=0:=rfl
theorem tw6298033893332097587:0=0:=rfl
theorem tw2393937325987436248:0=0:=rfl
theorem tw907359911958329709:0=0:=rfl
theorem tw13801937863458859944:0=0:=rfl
theorem tw2066564036433440168:0=0:=rfl
theorem tw2096541523181747872:0=0:=rfl
theorem tw604627371996746742:0=0:=rfl
theorem tw3715144110773694964:0=0:=rfl
theorem tw5438144065070405397:0=0:=rfl
theorem tw5331137831679937033:0=0:=rfl
theorem tw2591067827882107080:0=0:=rfl
theorem tw4053978428183960486:0=0:=rfl
theorem tw3928599903575798129:0=0:=rfl
theorem tw1134157569726261602:0=0:=rfl
theorem tw3581614266968435656:0=0:=rfl
theorem tw467416434755642258:0=0:=rfl
theorem tw11770459041652445329:0=0:=rfl
theorem tw15127644999133008818:0=0:=rfl
theorem tw10356212845559719233:0=0:=rfl
theorem tw5651425540991249520:0=0:=rfl
theorem tw7734086686654790897:0=0:=rfl
theorem tw9449176361245260279:0=0:=rfl
theorem tw12095829319087573521:0=0:=rfl
theorem tw5353729903917744248:0=0:=rfl
theorem tw2876011056497122456:0=0:=rfl
theorem tw12364624919760631829:0=0:=rfl
theorem tw17525636777796739105:0=0:=rfl
theorem tw1714602735852981970:0=0:=rfl
theorem tw3212073173673764245:0=0:=rfl
theorem tw13605870324054321959:0=0:=rfl
theorem tw13357441389134331599:0=0:=rfl
theorem tw2525317073905713282:0=0:=rfl
theorem tw6426539377367359892:0=0:=rfl
theorem tw1985537357303476512:0=0:=rfl
theorem tw15666658371737129944:0=0:=rfl
theorem tw5764021196749891206:0=0:=rfl
theorem tw17142359554024780413:0=0:=rfl
theorem tw5141578139466067413:0=0:=rfl
theorem tw9353324838224930552:0=0:=rfl
theorem tw3880867118405822719:0=0:=rfl
theorem tw693309671712327132:0=0:=rfl
theorem tw9701577420580846637:0=0:=rfl
theorem tw3696042808614700290:0=0:=rfl
theorem tw11052631288978436188:0=0:=rfl
theorem tw10389290468125465742:0=0:=rfl
theorem tw6846866878297920324:0=0:=rfl
theorem tw16106133796442146334:0=0:=rfl
theorem tw15735840784391694233:0=0:=rfl
theorem tw7575806435727305068:0=0:=rfl
theorem tw12417293695627231756:0=0:=rfl
theorem tw1489404036187247834:0=0:=rfl
theorem tw15035418422258542911:0=0:=rfl
theorem tw12727220549172885185:0=0:=rfl
theorem tw9081032859969197901:0=0:=rfl
theorem tw16997897962222511:0=0:=rfl
theorem tw15676425527210111115:0=0:=rfl
theorem tw1971652810694446911:0=0:=rfl
theorem tw1894759731626308040:0=0:=rfl
theorem tw17789423225533864492:0=0:=rfl
theorem tw12741294794224977040:0=0:=rfl
theorem tw16545597347906280737:0=0:=rfl
theorem tw6272251169252508156:0=0:=rfl
theorem tw10261356005730403935:0=0:=rfl
theorem tw1291722185910714397:0=0:=rfl
theorem tw15330342782969278459:0=0:=rfl
theorem tw15501141472565082077:0=0:=rfl
theorem tw7277520189549225825:0=0:=rfl
theorem tw17464823870196871000:0=0:=rfl
theorem tw7313386461004707312:0=0:=rfl
theorem tw10021064610941686981:0=0:=rfl
theorem tw13687475568465949530:0=0:=rfl
theorem tw9186546921256032858:0=0:=rfl
theorem tw14112020806712329415:0=0:=rfl
theorem tw13078646160514809887:0=0:=rfl
theorem tw7704315382344345624:0=0:=rfl
theorem tw3500380475922496097:0=0:=rfl
theorem tw2249667046024356820:0=0:=rfl
theorem tw11692735721529064706:0=0:=rfl
theorem tw8546719886708726068:0=0:=rfl
theorem tw14417885227837004991:0=0:=rfl
theorem tw12041218759213217779:0=0:=rfl
theorem tw16714887947964762639:0=0:=rfl
theorem tw9214367901419015226:0=0:=rfl
theorem tw17486074103640542121:0=0:=rfl
theorem tw12822298378996975857:0=0:=rfl
theorem tw12324890628731678277:0=0:=rfl
theorem tw14943480678444902952:0=0:=rfl
theorem tw13294958713779813728:0=0:=rfl
theorem tw18080951475816111786:0=0:=rfl
theorem tw5880090846938913235:0=0:=rfl
theorem tw1056085985882870562:0=0:=rfl
theorem tw7272792461964422541:0=0:=rfl
theorem tw2764016085172604524:0=0:=rfl
theorem tw999222835498014148:0=0:=rfl
theorem tw8715499118904818895:0=0:=rfl
theorem tw9702098958229961203:0=0:=rfl
theorem tw8866670633112419022:0=0:=rfl
theorem tw3991279037241028524:0=0:=rfl
theorem tw5187041380464763778:0=0:=rfl
theorem tw8182465387277545410:0=0:=rfl
theorem tw16845296645482713644:0=0:=rfl
theorem tw9083612298779875492:0=0:=rfl
theorem tw6562009823351158392:0=0:=rfl
theorem tw4708111749353345164:0=0:=rfl
theorem tw9464831228461672588:0=0:=rfl
theorem tw6110071263904590700:0=0:=rfl
theorem tw16894197260953374720:0=0:=rfl
theorem tw18123143868385100064:0=0:=rfl
theorem tw10018764681926925449:0=0:=rfl
theorem tw15841401105113185080:0=0:=rfl
theorem tw11544532188706048022:0=0:=rfl
theorem tw2007852463679175192:0=0:=rfl
theorem tw13198292447841614426:0=0:=rfl
theorem tw8541356943393881859:0=0:=rfl
theorem tw9601497413559074677:0=0:=rfl
theorem tw7358512011923840914:0=0:=rfl
theorem tw2340069552987342377:0=0:=rfl
theorem tw17287069475806534740:0=0:=rfl
theorem tw800753184934492916:0=0:=rfl
theorem tw2976249973925969801:0=0:=rfl
theorem tw5346772772824661884:0=0:=rfl
theorem tw6032335186944297945:0=0:=rfl
theorem tw2825341998796452840:0=0:=rfl
theorem tw9515422150858430662:0=0:=rfl
theorem tw44622916816846810:0=0:=rfl
theorem tw17348764703882912863:0=0:=rfl
theorem tw15832300201269216667:0=0:=rfl
theorem tw3597743205603396729:0=0:=rfl
theorem tw9777900189565919194:0=0:=rfl
theorem tw4691952243595246448:0=0:=rfl
theorem tw12043669396524033845:0=0:=rfl
theorem tw9142320679590124636:0=0:=rfl
theorem tw573967197379146972:0=0:=rfl
theorem tw3547240966391284428:0=0:=rfl
theorem tw2393098407364606883:0=0:=rfl
theorem tw8497721794823489343:0=0:=rfl
theorem tw9495540839478616804:0=0:=rfl
theorem tw13379354915994877463:0=0:=rfl
theorem tw2625984366357065906:0=0:=rfl
theorem tw12147184966966947637:0=0:=rfl
theorem tw5182153607120983317:0=0:=rfl
theorem tw7013799640231393816:0=0:=rfl
theorem tw16470739840699324481:0=0:=rfl
theorem tw5906749814970224870:0=0:=rfl
theorem tw4693820183103290663:0=0:=rfl
theorem tw6585138550035349233:0=0:=rfl
theorem tw5080737588221150853:0=0:=rfl
theorem tw3556061257289618393:0=0:=rfl
theorem tw4543076655600059902:0=0:=rfl
theorem tw6260244149815935644:0=0:=rfl
theorem tw14699756766385990792:0=0:=rfl
theorem tw12601080634535202701:0=0:=rfl
theorem tw2154566216772986472:0=0:=rfl
theorem tw3405375401864073989:0=0:=rfl
theorem tw14667470093908496907:0=0:=rfl
theorem tw16984083398119652359:0=0:=rfl
theorem tw11296743742662292762:0=0:=rfl
theorem tw12371566548271132015:0=0:=rfl
theorem tw11426403942048686318:0=0:=rfl
theorem tw14759185912286986992:0=0:=rfl
theorem tw90575161674971029:0=0:=rfl
theorem tw15253147559959296200:0=0:=rfl
theorem tw16847831306532103052:0=0:=rfl
theorem tw1832916270232011604:0=0:=rfl
theorem tw11402027661713467040:0=0:=rfl
theorem tw5861053725116212164:0=0:=rfl
theorem tw17332727794074296334:0=0:=rfl
theorem tw17821319399108415887:0=0:=rfl
theorem tw5725584637647431893:0=0:=rfl
theorem tw733406405333840765:0=0:=rfl
theorem tw12352672977532951062:0=0:=rfl
theorem tw7805308653706644653:0=0:=rfl
theorem tw6207834228037699737:0=0:=rfl
theorem tw15296082917334920728:0=0:=rfl
theorem tw13958067486993825360:0=0:=rfl
theorem tw8518231567759158271:0=0:=rfl
theorem tw4433315090154635215:0=0:=rfl
theorem tw7421959067914383049:0=0:=rfl
theorem tw8097174177036852075:0=0:=rfl
theorem tw1620002657737552111:0=0:=rfl
theorem tw1411908172568628276:0=0:=rfl
theorem tw3615648651819825313:0=0:=rfl
theorem tw2441957057352720082:0=0:=rfl
theorem tw2781723093108153277:0=0:=rfl
theorem tw14241001667801471300:0=0:=rfl
theorem tw16640130746408290383:0=0:=rfl
theorem tw10066793327743970655:0=0:=rfl
theorem tw10005452208157733855:0=0:=rfl
theorem tw7833285031277912329:0=0:=rfl
theorem tw18051680202136193954:0=0:=rfl
theorem tw10533634037010066435:0=0:=rfl
theorem tw18332285231265401824:0=0:=rfl
theorem tw5844781237557850387:0=0:=rfl
theorem tw10730805705081004914:0=0:=rfl
theorem tw1995287165650055613:0=0:=rfl
theorem tw7156519585557434892:0=0:=rfl
theorem tw7658410731251134818:0=0:=rfl
theorem tw10265929125382437317:0=0:=rfl
theorem tw7624658959004494543:0=0:=rfl
theorem tw3404819636646143723:0=0:=rfl
theorem tw1748456618969930982:0=0:=rfl
theorem tw10366927770000222440:0=0:=rfl
theorem tw10840385229135970747:0=0:=rfl
theorem tw4273228799998304602:0=0:=rfl
theorem tw10706776884845955466:0=0:=rfl
theorem tw17173436117698932495:0=0:=rfl
theorem tw8041981036286801607:0=0:=rfl
theorem tw11893822550167381502:0=0:=rfl
theorem tw12695399030622205104:0=0:=rfl
theorem tw17725469503822016867:0=0:=rfl
theorem tw742351954350328859:0=0:=rfl
theorem tw14527164170590304321:0=0:=rfl
theorem tw1643771367246577777:0=0:=rfl
theorem tw9114333099845857663:0=0:=rfl
theorem tw851385035628625539:0=0:=rfl
theorem tw5392078452651409485:0=0:=rfl
theorem tw15520248196984853422:0=0:=rfl
theorem tw6100774026682323163:0=0:=rfl
theorem tw6283374914333442975:0=0:=rfl
theorem tw14205479233844494046:0=0:=rfl
theorem tw5865467396996320769:0=0:=rfl
theorem tw13896987355042952010:0=0:=rfl
theorem tw9103479521544129834:0=0:=rfl
theorem tw5508695066786827253:0=0:=rfl
theorem tw12987040726578829979:0=0:=rfl
theorem tw2760189568479381244:0=0:=rfl
theorem tw1687793838685487538:0=0:=rfl
theorem tw315434073420411817:0=0:=rfl
theorem tw7906546307943345882:0=0:=rfl
theorem tw13637325136056909300:0=0:=rfl
theorem tw7712916153251135833:0=0:=rfl
theorem tw2907111362388958804:0=0:=rfl
theorem tw18277060748420158845:0=0:=rfl
theorem tw3688799982635324794:0=0:=rfl
theorem tw4746297304354101679:0=0:=rfl
theorem tw533756555076263647:0=0:=rfl
theorem tw7940748693946456147:0=0:=rfl
theorem tw9030979908501067730:0=0:=rfl
theorem tw16272097951300814418:0=0:=rfl
theorem tw10205530081349824492:0=0:=rfl
theorem tw8570663504987218829:0=0:=rfl
theorem tw8838475285390394957:0=0:=rfl
theorem tw12037728316022314418:0=0:=rfl
theorem tw11857307637417881527:0=0:=rfl
theorem tw17411354535832351560:0=0:=rfl
theorem tw12330954535739239725:0=0:=rfl
theorem tw9390939805106294822:0=0:=rfl
theorem tw2237326684586592538:0=0:=rfl
theorem tw9820158181544301314:0=0:=rfl
theorem tw976808484645153763:0=0:=rfl
theorem tw10070411193226618655:0=0:=rfl
theorem tw12903917746401883607:0=0:=rfl
theorem tw6507506987150044280:0=0:=rfl
theorem tw262713603470380999:0=0:=rfl
theorem tw12212823987433534256:0=0:=rfl
theorem tw300626226527484142:0=0:=rfl
theorem tw940147379719373870:0=0:=rfl
theorem tw7450023128482652576:0=0:=rfl
theorem tw17190349231170142043:0=0:=rfl
theorem tw3127049524044150859:0=0:=rfl
theorem tw10105583180162433683:0=0:=rfl
theorem tw14234965402570480558:0=0:=rfl
theorem tw10519217271611395807:0=0:=rfl
theorem tw1211024037004892549:0=0:=rfl
theorem tw2857895335220236748:0=0:=rfl
theorem tw3453547403478019728:0=0:=rfl
theorem tw4377270945021899497:0=0:=rfl
theorem tw2588942769649879372:0=0:=rfl
theorem tw9082462177598256812:0=0:=rfl
theorem tw6307057079134178644:0=0:=rfl
theorem tw8569104457590258164:0=0:=rfl
theorem tw16474958459275807246:0=0:=rfl
theorem tw11005904730967762025:0=0:=rfl
theorem tw12682429181067543257:0=0:=rfl
theorem tw12898564942027811295:0=0:=rfl
theorem tw1272635626206103303:0=0:=rfl
theorem tw8997269238129315039:0=0:=rfl
theorem tw1618804561499322139:0=0:=rfl
theorem tw6588589085864783938:0=0:=rfl
theorem tw14364637388885140079:0=0:=rfl
theorem tw10812213935944405949:0=0:=rfl
theorem tw14969872817325187116:0=0:=rfl
theorem tw497287684792784471:0=0:=rfl
theorem tw18384547517478447814:0=0:=rfl
theorem tw17782148633632673465:0=0:=rfl
theorem tw17802811846837562170:0=0:=rfl
theorem tw14788773977795034992:0=0:=rfl
theorem tw2241628862621589225:0=0:=rfl
theorem tw17972497016974392416:0=0:=rfl
theorem tw8337448324364255386:0=0:=rfl
theorem tw6763335052953634553:0=0:=rfl
theorem tw16582591585412914238:0=0:=rfl
theorem tw5927865893512547691:0=0:=rfl
theorem tw17113217626458354986:0=0:=rfl
theorem tw4975070653579243887:0=0:=rfl
theorem tw9984397402777080727:0=0:=rfl
theorem tw7680146299302783591:0=0:=rfl
theorem tw18060483585939721653:0=0:=rfl
theorem tw13478637309914159250:0=0:=rfl
theorem tw9802980913210911633:0=0:=rfl
theorem tw9553506758532729402:0=0:=rfl
theorem tw12630350610049390935:0=0:=rfl
theorem tw5751227541892866231:0=0:=rfl
theorem tw10467814448475477596:0=0:=rfl
theorem tw16014373381606645092:0=0:=rfl
theorem tw14510035829388032376:0=0:=rfl
theorem tw13295774097974887486:0=0:=rfl
theorem tw3122906425038022637:0=0:=rfl
theorem tw9646481798937456297:0=0:=rfl
theorem tw1660877005871194693:0=0:=rfl
theorem tw527386997569798941:0=0:=rfl
theorem tw6692803169904595997:0=0:=rfl
theorem tw1401139394160673004:0=0:=rfl
theorem tw10510622979536455646:0=0:=rfl
theorem tw2661039320868540944:0=0:=rfl
theorem tw4991397462208424806:0=0:=rfl
theorem tw17002534310236347988:0=0:=rfl
theorem tw12359489953124434286:0=0:=rfl
theorem tw2545145822199252752:0=0:=rfl
theorem tw15647610678857825673:0=0:=rfl
theorem tw10765931590201843916:0=0:=rfl
theorem tw14676189674455941282:0=0:=rfl
theorem tw8035625575855466936:0=0:=rfl
theorem tw15148963937461231693:0=0:=rfl
theorem tw17844492200522320778:0=0:=rfl
theorem tw2506711637615833298:0=0:=rfl
theorem tw1172538174109094731:0=0:=rfl
theorem tw14028522991509751376:0=0:=rfl
theorem tw14877080517539528568:0=0:=rfl
theorem tw7994106446794305319:0=0:=rfl
theorem tw14983349147647662914:0=0:=rfl
theorem tw8264559056461403633:0=0:=rfl
theorem tw1929634836878124385:0=0:=rfl
theorem tw12858780395421280599:0=0:=rfl
theorem tw17674571679781333832:0=0:=rfl
theorem tw11988142204041823098:0=0:=rfl
theorem tw13600378441667735501:0=0:=rfl
theorem tw13276723143375012678:0=0:=rfl
theorem tw14139502460874162764:0=0:=rfl
theorem tw7748693106545578708:0=0:=rfl
theorem tw7494366503370351645:0=0:=rfl
theorem tw6846597200999610202:0=0:=rfl
theorem tw14740928361383774428:0=0:=rfl
theorem tw17854890406432584798:0=0:=rfl
theorem tw11308087075614649832:0=0:=rfl
theorem tw18177665153149118353:0=0:=rfl
theorem tw8603420104599213669:0=0:=rfl
theorem tw9658139154387788515:0=0:=rfl
theorem tw7705420606127192585:0=0:=rfl
theorem tw12244833863542804788:0=0:=rfl
theorem tw3368474557548986910:0=0:=rfl
theorem tw16962450398199861240:0=0:=rfl
theorem tw9827913525700040407:0=0:=rfl
theorem tw9407594320385231609:0=0:=rfl
theorem tw13137911371727378231:0=0:=rfl
theorem tw14279838766785379302:0=0:=rfl
theorem tw13750642191701924398:0=0:=rfl
theorem tw6226413525154113608:0=0:=rfl
theorem tw8815353094830122866:0=0:=rfl
theorem tw3651205649096709438:0=0:=rfl
theorem tw15091486752826498866:0=0:=rfl
theorem tw8451290768687142514:0=0:=rfl
theorem tw7616930195647119758:0=0:=rfl
theorem tw6751290297309308749:0=0:=rfl
theorem tw5944575059761466720:0=0:=rfl
theorem tw7802898811600756450:0=0:=rfl
theorem tw6858743491597560450:0=0:=rfl
theorem tw14796412885826930917:0=0:=rfl
theorem tw16128420640991077102:0=0:=rfl
theorem tw12460202669355646752:0=0:=rfl
theorem tw3160712208675142370:0=0:=rfl
theorem tw7253898381062576733:0=0:=rfl
theorem tw8182079617134344778:0=0:=rfl
theorem tw17339705970751849611:0=0:=rfl
theorem tw8169693465737517768:0=0:=rfl
theorem tw12892129938458570674:0=0:=rfl
theorem tw7627683417492964911:0=0:=rfl
theorem tw14768688571040804171:0=0:=rfl
theorem tw1919001801439425371:0=0:=rfl
theorem tw13002585709282622103:0=0:=rfl
theorem tw15052771764104931649:0=0:=rfl
theorem tw5126042685161816208:0=0:=rfl
theorem tw1315816938146588887:0=0:=rfl
theorem tw13917482298092908234:0=0:=rfl
theorem tw7656372460463219624:0=0:=rfl
theorem tw3986194592780655508:0=0:=rfl
theorem tw15256841493749336786:0=0:=rfl
theorem tw11063524718261073790:0=0:=rfl
theorem tw12207028300977255130:0=0:=rfl
theorem tw12024539317367501503:0=0:=rfl
theorem tw15785421084128741142:0=0:=rfl
theorem tw5723944856813171866:0=0:=rfl
theorem tw15794997505209512671:0=0:=rfl
theorem tw11597336398036118778:0=0:=rfl
theorem tw1457377512435260902:0=0:=rfl
theorem tw6871339299614917876:0=0:=rfl
theorem tw17539234302018041193:0=0:=rfl
theorem tw3164961170700492040:0=0:=rfl
theorem tw7148437315225170067:0=0:=rfl
theorem tw16769997242578385675:0=0:=rfl
theorem tw12427710115714267126:0=0:=rfl
theorem tw12362083183470981646:0=0:=rfl
theorem tw1970811146720035896:0=0:=rfl
theorem tw10668533816033670360:0=0:=rfl
theorem tw17646911460466567920:0=0:=rfl
theorem tw1939405473400901271:0=0:=rfl
theorem tw14235953900361662071:0=0:=rfl
theorem tw10317212456122042642:0=0:=rfl
theorem tw3501597964444990463:0=0:=rfl
theorem tw4277651752456152607:0=0:=rfl
theorem tw5737951250597237232:0=0:=rfl
theorem tw6880043348581005364:0=0:=rfl
theorem tw10270352894671993868:0=0:=rfl
theorem tw14513887754847984766:0=0:=rfl
theorem tw2035680199648653684:0=0:=rfl
theorem tw18007968972792079559:0=0:=rfl
theorem tw4554283584077286953:0=0:=rfl
theorem tw48543519692965452:0=0:=rfl
theorem tw16031315777459398524:0=0:=rfl
theorem tw14112051064653734678:0=0:=rfl
theorem tw8534208459206503383:0=0:=rfl
theorem tw1082313596108445148:0=0:=rfl
theorem tw1319983325249436295:0=0:=rfl
theorem tw1992862871153497056:0=0:=rfl
theorem tw807299193193998342:0=0:=rfl
theorem tw16966009324859112401:0=0:=rfl
theorem tw2413573451304230806:0=0:=rfl
theorem tw10736139440505347576:0=0:=rfl
theorem tw14488727979953464203:0=0:=rfl
theorem tw2428695696106030784:0=0:=rfl
theorem tw6847273489543275152:0=0:=rfl
theorem tw12310735299239354703:0=0:=rfl
theorem tw17039324001796647390:0=0:=rfl
theorem tw17346037399652195860:0=0:=rfl
theorem tw10371985647062452541:0=0:=rfl
theorem tw15510365090734361527:0=0:=rfl
theorem tw15539854500240908086:0=0:=rfl
theorem tw4239589573987675453:0=0:=rfl
theorem tw649443455394278489:0=0:=rfl
theorem tw8586521899292070991:0=0:=rfl
theorem tw15798066900824788120:0=0:=rfl
theorem tw9592777112578238593:0=0:=rfl
theorem tw4857777746444614323:0=0:=rfl
theorem tw15894371620910866019:0=0:=rfl
theorem tw17453365369857097546:0=0:=rfl
theorem tw15779500811904541264:0=0:=rfl
theorem tw4709128311485490483:0=0:=rfl
theorem tw13743032657059413451:0=0:=rfl
theorem tw2681166955253090778:0=0:=rfl
theorem tw10472834687351259785:0=0:=rfl
theorem tw15839026252421587059:0=0:=rfl
theorem tw11105056867450500199:0=0:=rfl
theorem tw6088685845774392931:0=0:=rfl
theorem tw4747847215974616972:0=0:=rfl
theorem tw12773685731770592110:0=0:=rfl
theorem tw12398312691204496596:0=0:=rfl
theorem tw9467168580101747369:0=0:=rfl
theorem tw5792407227767346561:0=0:=rfl
theorem tw11998209505049934977:0=0:=rfl
theorem tw6891450509433485068:0=0:=rfl
theorem tw9767149119325585590:0=0:=rfl
theorem tw3304075619188804072:0=0:=rfl
theorem tw14195316510222423288:0=0:=rfl
theorem tw16817119741492734445:0=0:=rfl
theorem tw11081218982966106116:0=0:=rfl
theorem tw10746725682022337571:0=0:=rfl
theorem tw8874674299285249911:0=0:=rfl
theorem tw15898109809663626304:0=0:=rfl
theorem tw2705560170217086799:0=0:=rfl
theorem tw16576625349610184965:0=0:=rfl
theorem tw17836260108008149386:0=0:=rfl
theorem tw1495726902847802894:0=0:=rfl
theorem tw6930615606355531631:0=0:=rfl
theorem tw8550467674348477657:0=0:=rfl
theorem tw11427066125472700054:0=0:=rfl
theorem tw14149427978524627653:0=0:=rfl
theorem tw11923155195566972133:0=0:=rfl
theorem tw6161856959107265637:0=0:=rfl
theorem tw14843749296085226474:0=0:=rfl
theorem tw6053997905714604814:0=0:=rfl
theorem tw11575215950464049746:0=0:=rfl
theorem tw6369041477666114370:0=0:=rfl
theorem tw4528443807372415038:0=0:=rfl
theorem tw6237802210402583469:0=0:=rfl
theorem tw9297382265435449532:0=0:=rfl
theorem tw10340462753498674063:0=0:=rfl
theorem tw8812732774380208333:0=0:=rfl
theorem tw18364922244981856966:0=0:=rfl
theorem tw13846591363081406657:0=0:=rfl
theorem tw17894702793023417833:0=0:=rfl
theorem tw6099028997845504075:0=0:=rfl
theorem tw10431609616501453582:0=0:=rfl
theorem tw4196546014268931301:0=0:=rfl
theorem tw12428389735305899900:0=0:=rfl
theorem tw17173245716831642929:0=0:=rfl
theorem tw3980653432952411973:0=0:=rfl
theorem tw15840312062823119879:0=0:=rfl
theorem tw2355103038987944067:0=0:=rfl
theorem tw820421773197932041:0=0:=rfl
theorem tw12478146576626367362:0=0:=rfl
theorem tw18331334602107656470:0=0:=rfl
theorem tw1608297297296620843:0=0:=rfl
theorem tw17015032458148788900:0=0:=rfl
theorem tw2973143901146584636:0=0:=rfl
theorem tw10079960370226730655:0=0:=rfl
theorem tw15967466079928408925:0=0:=rfl
theorem tw4174567291243999617:0=0:=rfl
theorem tw6536181036136497285:0=0:=rfl
theorem tw779419810087314491:0=0:=rfl
theorem tw17377423518514600169:0=0:=rfl
theorem tw17297054508065495485:0=0:=rfl
theorem tw6053349399257934933:0=0:=rfl
theorem tw13337238644230332656:0=0:=rfl
theorem tw4764554697811233:0=0:=rfl
theorem tw15895551434495452948:0=0:=rfl
theorem tw18374146501891711260:0=0:=rfl
theorem tw11290360913936777911:0=0:=rfl
theorem tw2728595385866086531:0=0:=rfl
theorem tw4163069186122357367:0=0:=rfl
theorem tw8476099583838051002:0=0:=rfl
theorem tw14946772226789246504:0=0:=rfl
theorem tw13942192884097748152:0=0:=rfl
theorem tw13504307299585405616:0=0:=rfl
theorem tw45052839361067614:0=0:=rfl
theorem tw5019597260055213698:0=0:=rfl
theorem tw17212568112599259466:0=0:=rfl
theorem tw14744981736328886265:0=0:=rfl
theorem tw6085824867444503733:0=0:=rfl
theorem tw2437478716016495240:0=0:=rfl
theorem tw13246386896891170512:0=0:=rfl
theorem tw1718890006036334650:0=0:=rfl
theorem tw11821203517306503961:0=0:=rfl
theorem tw15827502805916655846:0=0:=rfl
theorem tw12611893724949602041:0=0:=rfl
theorem tw16572314662081343053:0=0:=rfl
theorem tw9062998866958442273:0=0:=rfl
theorem tw10936905620487946977:0=0:=rfl
theorem tw10333954764705244698:0=0:=rfl
theorem tw9107825763807709430:0=0:=rfl
theorem tw9997865855256709051:0=0:=rfl
theorem tw12604462930493870256:0=0:=rfl
theorem tw14882813523228863612:0=0:=rfl
theorem tw6489421142724028100:0=0:=rfl
theorem tw3860651933079915558:0=0:=rfl
theorem tw15436542981012472205:0=0:=rfl
theorem tw12287978374625458572:0=0:=rfl
theorem tw11582096051123008839:0=0:=rfl
theorem tw10988817232074504935:0=0:=rfl
theorem tw4839655697589452165:0=0:=rfl
theorem tw3821945547825155762:0=0:=rfl
theorem tw2298694737197419510:0=0:=rfl
theorem tw5692561127517737954:0=0:=rfl
theorem tw7161073391023584161:0=0:=rfl
theorem tw18433677622606106133:0=0:=rfl
theorem tw1728724042893426364:0=0:=rfl
theorem tw10116942457455264815:0=0:=rfl
theorem tw8912104118211102971:0=0:=rfl
theorem tw9644850379433450445:0=0:=rfl
theorem tw14586503196746008701:0=0:=rfl
theorem tw9065935926736091543:0=0:=rfl
theorem tw2326617092838664518:0=0:=rfl
theorem tw14139617269561922093:0=0:=rfl
theorem tw11925700103697007601:0=0:=rfl
theorem tw3746228215898030841:0=0:=rfl
theorem tw9197122456581196581:0=0:=rfl
end Mine.head
section
open PySem PySem.W PyProof.Rows PySem.Calls
set_option Elab.async true
set_option maxRecDepth 1000000 in
set_option maxHeartbeats 16000000 in
theorem Mine.head : PySem.Challenge.rw_nn0066_01.Holds := by
  w_on; o_law; k_head
  (case hw => w_witness2)
  w_strict k_go0
  rename_i w s₀ s₁ mg mb G Y fa o pm doc ho hg KX X V GL T B TE TW w12 w11 M cd w9 hcd ns hs hlay0 hLay hr1 hl2 as7 as6 a vs as3 hL ra w1 r0 hI hr hcond1 hcond2 K0 hD h1 tk1 F o2 o1 o0 d2 d1 d0 N0 X0
  have hz : ns.length <= 63 := by omega
  refine Mine.law_top (C := ⟨_, w, _, _, _, _, mg, mb⟩) (la := fa) (lcd := .ref cd) (b := s₁.heap) (base := s₁.heap) (vs := vs) (ns := ns) (a := a) ?_ ⟨by kernel_rfl, by kernel_rfl, by kernel_rfl⟩ ⟨by kernel_rfl⟩ ⟨by constructor <;> kernel_rfl⟩ (below_caller _) KX T F ?_ N0 ?_ ?_ ?_ hL hI hz ?_
  . constructor
    all_goals first | kernel_rfl | (constructor <;> kernel_rfl)
  . kernel_rfl
  . exact d2.trans (by kernel_rfl)
  . exact d1.trans (by kernel_rfl)
  . exact d0.trans (by kernel_rfl)
  . intro h tk m F'
    exact goodW_bool F' hg (raisesW_false (by wrow_none_raised)) (by kernel_rfl)
end
theorem PySem.Challenge.cw_nn0066_01_holds : PySem.Challenge.rw_nn0066_01.Holds :=
  Mine.head
