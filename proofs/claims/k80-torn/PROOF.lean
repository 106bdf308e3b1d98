import PyProof.Rows.All
import Wide.All
import OpenK.AllK
import Wide.FinOn
import HandS.ForMost
import HandS.ForExc
import HandS.WordsDict
import HandS.Evl
import HandS.Bytes
import HandS.BytesMake
import HandS.More
import HandS.Star
import HandS.Defaults
import HandS.MakeKw
import HandS.MakeKwOnly
import HandS.IsInst
import HandS.OwnEq
import HandS.StrMore
import HandS.FStr
import HandS.IntHex
import HandS.DictComp
import HandS.Wide
import HandS.GenCall
import HandS.GenYield
import HandS.GenList
import HandS.ExcSuper
import HandS.Codes
import HandS.ClsMeth
import HandS.Flow
import HandS.MethStar
import HandS.Walk
import HandS.Deep
import HandS.DeepEq
import HandS.TupAny
import HandS.CallSlots
import HandS.TryMany
import HandS.Style
import KE.KStrBytes
import KE.KBytesDec
import KE.KBytesFind
import PySem.Challenge.RW_tarhouse_k80_whole_torn_archives_unpacke
import HandS.Head0
import HandS.Head1
import HandS.Head2
import HandS.HeadEnd
import HandS.HeadHook1
import HandS.HeadHook2
import HandS.HeadHook3
import KE.KBytesNew
import KE.KBytesMore
import PyProof.SumAny
import PyProof.NeKinds
import KE.KExcSuper
import KE.KExcInit
import HandS.ExcInit
import HandS.ExcField
import PyProof.FString3
import PyProof.Rows.StrIntSpec
import HandS.WrittenGet
import PyProof.ZipIter
import KE.KDictZip
import KE.GoesEnumKw
import PyProof.ListNew
section
set_option autoImplicit false
/-! Plain mathematics: octal fields, text fields, headers, their fields read back. -/
namespace Tar
abbrev By := List UInt8
def zs (n : Nat) : By := List.replicate n 0
/-- the octal digits of n, k of them, as codes -/
def octL : Nat → Nat → List Nat
  | 0, _ => []
  | k + 1, n => octL k (n / 8) ++ [48 + n % 8]
theorem octL_length : ∀ k n, (octL k n).length = k
  | 0, _ => rfl
  | k + 1, n => by rw [octL, List.length_append, octL_length k]; rfl
theorem octL_zero : ∀ k, octL k 0 = List.replicate k 48
  | 0 => rfl
  | k + 1 => by
    rw [octL, Nat.zero_div, octL_zero k, List.replicate_succ']
theorem octL_dig : ∀ k n c, c ∈ octL k n → 48 ≤ c ∧ c ≤ 55
  | 0, _, c, h => by cases h
  | k + 1, n, c, h => by
    rw [octL, List.mem_append] at h
    rcases h with h | h
    · exact octL_dig k _ c h
    · rw [List.mem_singleton] at h
      omega
theorem digitChar8 (d : Nat) (h : d < 8) : (Nat.digitChar d).toNat = 48 + d := by
  match d, h with
  | 0, _ => rfl
  | 1, _ => rfl
  | 2, _ => rfl
  | 3, _ => rfl
  | 4, _ => rfl
  | 5, _ => rfl
  | 6, _ => rfl
  | 7, _ => rfl
/-- the digits as Python's format writes them -/
def octD (n : Nat) : List Nat := (Nat.toDigits 8 n).map Char.toNat
theorem octD_lt {n : Nat} (h : n < 8) : octD n = [48 + n] := by
  unfold octD
  rw [Nat.toDigits_of_lt_base h, List.map_singleton, digitChar8 n h]
theorem octD_ge {n : Nat} (h : ¬ n < 8) : octD n = octD (n / 8) ++ [48 + n % 8] := by
  unfold octD
  rw [Nat.toDigits_eq_if (by decide : 1 < 8) (n := n), if_neg h, List.map_append, List.map_singleton, digitChar8 _ (Nat.mod_lt _ (by decide))]
theorem octD_pos (n : Nat) : 0 < (octD n).length := by
  unfold octD
  rw [List.length_map]
  exact Nat.length_toDigits_pos
theorem octD_len {k n : Nat} (hk : 0 < k) (h : n < 8 ^ k) : (octD n).length ≤ k := by
  unfold octD
  rw [List.length_map]
  exact (Nat.length_toDigits_le_iff (by decide) hk).mpr h
theorem octD_dig (n : Nat) : ∀ c ∈ octD n, 48 ≤ c ∧ c ≤ 55 := by
  induction n using Nat.strongRecOn with
  | _ n ih =>
    intro c hc
    by_cases h : n < 8
    · rw [octD_lt h, List.mem_singleton] at hc
      omega
    · rw [octD_ge h, List.mem_append] at hc
      rcases hc with hc | hc
      · exact ih (n / 8) (by omega) c hc
      · rw [List.mem_singleton] at hc
        omega
theorem octD_pad : ∀ (k n : Nat), 0 < k → n < 8 ^ k → List.replicate (k - (octD n).length) 48 ++ octD n = octL k n
  | 0, _, h, _ => absurd h (Nat.lt_irrefl 0)
  | k + 1, n, _, hn => by
    by_cases h : n < 8
    · rw [octD_lt h, octL, Nat.div_eq_of_lt h, octL_zero, Nat.mod_eq_of_lt h]
      rfl
    · have hk : 0 < k := by
        cases k with
        | zero => exact absurd hn (by omega)
        | succ k => exact Nat.succ_pos k
      have hn8 : n / 8 < 8 ^ k := by
        rw [Nat.pow_succ] at hn
        omega
      have ih := octD_pad k (n / 8) hk hn8
      have hl := octD_len hk hn8
      rw [octD_ge h, octL, ← ih, List.length_append, List.length_singleton, Nat.add_sub_add_right, List.append_assoc]
def octV (l : List Nat) : Nat := l.foldl (fun a c => a * 8 + (c - 48)) 0
theorem octV_snoc (l : List Nat) (c : Nat) : octV (l ++ [c]) = octV l * 8 + (c - 48) := by
  unfold octV
  rw [List.foldl_append]
  rfl
theorem octV_octL : ∀ (k n : Nat), n < 8 ^ k → octV (octL k n) = n
  | 0, n, h => by
    rw [Nat.pow_zero] at h
    have : n = 0 := by omega
    subst this
    rfl
  | k + 1, n, h => by
    have h8 : n / 8 < 8 ^ k := by
      rw [Nat.pow_succ] at h
      omega
    rw [octL, octV_snoc, octV_octL k _ h8]
    omega

/-! ### bytes -/
/-- codes below 128 as bytes -/
def enc (l : List Nat) : By := l.map Nat.toUInt8
theorem enc_length (l : List Nat) : (enc l).length = l.length := List.length_map ..
theorem enc_append (l m : List Nat) : enc (l ++ m) = enc l ++ enc m := List.map_append ..
def dec (l : By) : List Nat := l.map UInt8.toNat
theorem u8_of {c : Nat} (h : c < 256) : (Nat.toUInt8 c).toNat = c := by
  show (UInt8.ofNat c).toNat = c
  rw [UInt8.toNat_ofNat']
  exact Nat.mod_eq_of_lt h
theorem dec_enc {l : List Nat} (h : ∀ c ∈ l, c < 256) : dec (enc l) = l := by
  unfold dec enc
  rw [List.map_map]
  conv => rhs; rw [← List.map_id l]
  exact List.map_congr_left fun c hc => u8_of (h c hc)
def sumB (l : By) : Nat := (l.map UInt8.toNat).sum
theorem sumB_append (l m : By) : sumB (l ++ m) = sumB l + sumB m := by
  unfold sumB
  rw [List.map_append, List.sum_append]
theorem sumB_zs (n : Nat) : sumB (zs n) = 0 := by
  unfold sumB zs
  rw [List.map_replicate]
  induction n with
  | zero => rfl
  | succ n ih => rw [List.replicate_succ, List.sum_cons, ih]; rfl
theorem sumB_le : ∀ (l : By), sumB l ≤ 255 * l.length
  | [] => Nat.le_refl _
  | c :: l => by
    have h := sumB_le l
    have hc : c.toNat < 256 := UInt8.toNat_lt c
    unfold sumB at h ⊢
    rw [List.map_cons, List.sum_cons, List.length_cons]
    omega
theorem zs_length (n : Nat) : (zs n).length = n := List.length_replicate ..
theorem zs_append (m n : Nat) : zs m ++ zs n = zs (m + n) := List.replicate_append_replicate ..
/-- data[i:j] -/
def sl (l : By) (i j : Nat) : By := (l.drop i).take (j - i)
theorem sl_at {a b c : By} {i j : Nat} (ha : a.length = i) (hb : b.length = j - i) : sl (a ++ (b ++ c)) i j = b := by
  unfold sl
  subst ha
  rw [List.drop_left, ← hb, List.take_left]
theorem sl_at0 {b c : By} {j : Nat} (hb : b.length = j) : sl (b ++ c) 0 j = b := by
  unfold sl
  rw [List.drop_zero, Nat.sub_zero, ← hb, List.take_left]

/-! ### a header -/
/-- an octal field: k digits and a zero -/
def oct (k n : Nat) : By := enc (octL k n) ++ [0]
theorem oct_length (k n : Nat) : (oct k n).length = k + 1 := by
  unfold oct
  rw [List.length_append, enc_length, octL_length]
  rfl
/-- a text field of w bytes -/
def txt (w : Nat) (t : List Nat) : By := enc t ++ zs (w - t.length)
theorem txt_length {w : Nat} {t : List Nat} (h : t.length ≤ w) : (txt w t).length = w := by
  unfold txt
  rw [List.length_append, enc_length, zs_length]
  omega
def magic : By := [117, 115, 116, 97, 114, 0, 48, 48]
def front (nm : List Nat) (mode size time : Nat) : By := txt 100 nm ++ (oct 7 mode ++ (oct 7 0 ++ (oct 7 0 ++ (oct 11 size ++ oct 11 time))))
def behind (kind : Nat) (tg : List Nat) : By := enc [kind] ++ (txt 100 tg ++ (magic ++ zs 247))
/-- the checksum of a block whose checksum field is c: the sum of all with eight spaces in it -/
def ckOf (f b : By) : Nat := sumB f + sumB b + 256
def ck (n : Nat) : By := oct 6 n ++ [32]
theorem ck_length (n : Nat) : (ck n).length = 8 := by
  unfold ck
  rw [List.length_append, oct_length]
  rfl
def hdr (kind : Nat) (nm : List Nat) (mode size time : Nat) (tg : List Nat) : By :=
  front nm mode size time ++ (ck (ckOf (front nm mode size time) (behind kind tg)) ++ behind kind tg)
section
variable {kind mode size time : Nat} {nm tg : List Nat}
theorem front_length (h : nm.length ≤ 100) : (front nm mode size time).length = 148 := by
  unfold front
  simp only [List.length_append, txt_length h, oct_length]
theorem behind_length (h : tg.length ≤ 100) : (behind kind tg).length = 356 := by
  unfold behind
  simp only [List.length_append, txt_length h, zs_length, enc_length]
  rfl
theorem hdr_length (h : nm.length ≤ 100) (h' : tg.length ≤ 100) : (hdr kind nm mode size time tg).length = 512 := by
  unfold hdr
  simp only [List.length_append, front_length h, behind_length h', ck_length]
theorem ckOf_lt (h : nm.length ≤ 100) (h' : tg.length ≤ 100) : ckOf (front nm mode size time) (behind kind tg) < 8 ^ 6 := by
  have h1 := sumB_le (front nm mode size time)
  have h2 := sumB_le (behind kind tg)
  rw [front_length h] at h1
  rw [behind_length h'] at h2
  unfold ckOf
  omega
/-- the whole as one row of parts -/
theorem hdr_parts : hdr kind nm mode size time tg = txt 100 nm ++ (oct 7 mode ++ (oct 7 0 ++ (oct 7 0 ++ (oct 11 size ++ (oct 11 time ++
    (ck (ckOf (front nm mode size time) (behind kind tg)) ++ (enc [kind] ++ (txt 100 tg ++ (magic ++ zs 247))))))))) := by
  unfold hdr
  conv => lhs; lhs; unfold front
  conv => lhs; rhs; rhs; unfold behind
  simp only [List.append_assoc]
end
/-- a slice behind a part -/
theorem sl_skip {a b : By} {i j n : Nat} (ha : a.length = n) (hi : n ≤ i) (hj : i ≤ j) : sl (a ++ b) i j = sl b (i - n) (j - n) := by
  unfold sl
  rw [← ha] at hi ⊢
  rw [List.drop_append, List.drop_eq_nil_of_le hi, List.nil_append]
  congr 1
  omega
section
variable {kind mode size time : Nat} {nm tg : List Nat}
theorem f_name (h : nm.length ≤ 100) : sl (hdr kind nm mode size time tg) 0 100 = txt 100 nm := by
  rw [hdr_parts]
  exact sl_at0 (txt_length h)
theorem f_mode (h : nm.length ≤ 100) : sl (hdr kind nm mode size time tg) 100 108 = oct 7 mode := by
  rw [hdr_parts, sl_skip (txt_length h) (by decide) (by decide)]
  exact sl_at0 (oct_length ..)
theorem f_owner (h : nm.length ≤ 100) : sl (hdr kind nm mode size time tg) 108 116 = oct 7 0 := by
  rw [hdr_parts, sl_skip (txt_length h) (by decide) (by decide), sl_skip (oct_length ..) (by decide) (by decide)]
  exact sl_at0 (oct_length ..)
theorem f_group (h : nm.length ≤ 100) : sl (hdr kind nm mode size time tg) 116 124 = oct 7 0 := by
  rw [hdr_parts, sl_skip (txt_length h) (by decide) (by decide), sl_skip (oct_length ..) (by decide) (by decide), sl_skip (oct_length ..) (by decide) (by decide)]
  exact sl_at0 (oct_length ..)
theorem f_size (h : nm.length ≤ 100) : sl (hdr kind nm mode size time tg) 124 136 = oct 11 size := by
  rw [hdr_parts, sl_skip (txt_length h) (by decide) (by decide), sl_skip (oct_length ..) (by decide) (by decide), sl_skip (oct_length ..) (by decide) (by decide), sl_skip (oct_length ..) (by decide) (by decide)]
  exact sl_at0 (oct_length ..)
theorem f_time (h : nm.length ≤ 100) : sl (hdr kind nm mode size time tg) 136 148 = oct 11 time := by
  rw [hdr_parts, sl_skip (txt_length h) (by decide) (by decide), sl_skip (oct_length ..) (by decide) (by decide), sl_skip (oct_length ..) (by decide) (by decide), sl_skip (oct_length ..) (by decide) (by decide), sl_skip (oct_length ..) (by decide) (by decide)]
  exact sl_at0 (oct_length ..)
theorem front_skip (h : nm.length ≤ 100) {i j : Nat} (hi : 148 ≤ i) (hj : i ≤ j) : sl (hdr kind nm mode size time tg) i j = sl (ck (ckOf (front nm mode size time) (behind kind tg)) ++ behind kind tg) (i - 148) (j - 148) := by
  unfold hdr
  exact sl_skip (front_length h) hi hj
theorem f_ck (h : nm.length ≤ 100) : sl (hdr kind nm mode size time tg) 148 156 = ck (ckOf (front nm mode size time) (behind kind tg)) := by
  rw [front_skip h (by decide) (by decide)]
  exact sl_at0 (ck_length _)
theorem behind_skip (h : nm.length ≤ 100) {i j : Nat} (hi : 156 ≤ i) (hj : i ≤ j) : sl (hdr kind nm mode size time tg) i j = sl (behind kind tg) (i - 156) (j - 156) := by
  rw [front_skip h (by omega) hj, sl_skip (ck_length _) (by omega) (by omega), Nat.sub_sub, Nat.sub_sub]
theorem f_kind (h : nm.length ≤ 100) : sl (hdr kind nm mode size time tg) 156 157 = enc [kind] := by
  rw [behind_skip h (by decide) (by decide)]
  exact sl_at0 rfl
theorem f_target (h : nm.length ≤ 100) (h' : tg.length ≤ 100) : sl (hdr kind nm mode size time tg) 157 257 = txt 100 tg := by
  rw [behind_skip h (by decide) (by decide)]
  unfold behind
  rw [sl_skip (show (enc [kind]).length = 1 from rfl) (by decide) (by decide)]
  exact sl_at0 (txt_length h')
theorem f_magic (h : nm.length ≤ 100) (h' : tg.length ≤ 100) : sl (hdr kind nm mode size time tg) 257 265 = magic := by
  rw [behind_skip h (by decide) (by decide)]
  unfold behind
  rw [sl_skip (show (enc [kind]).length = 1 from rfl) (by decide) (by decide), sl_skip (txt_length h') (by decide) (by decide)]
  exact sl_at0 rfl
theorem f_rest (h : nm.length ≤ 100) (h' : tg.length ≤ 100) : (hdr kind nm mode size time tg).drop 265 = zs 247 := by
  have e : hdr kind nm mode size time tg = (front nm mode size time ++ (ck (ckOf (front nm mode size time) (behind kind tg)) ++ (enc [kind] ++ (txt 100 tg ++ magic)))) ++ zs 247 := by
    unfold hdr
    conv => lhs; rhs; rhs; unfold behind
    simp only [List.append_assoc]
  have l : (front nm mode size time ++ (ck (ckOf (front nm mode size time) (behind kind tg)) ++ (enc [kind] ++ (txt 100 tg ++ magic)))).length = 265 := by
    simp only [List.length_append, front_length h, ck_length, enc_length, txt_length h']
    rfl
  rw [e, ← l, List.drop_left]
/-- the sum that checksum_field takes of the whole block -/
theorem hdr_sum (h : nm.length ≤ 100) : sumB (hdr kind nm mode size time tg) - sumB (sl (hdr kind nm mode size time tg) 148 156) + 256 = ckOf (front nm mode size time) (behind kind tg) := by
  rw [f_ck h]
  unfold hdr ckOf
  rw [sumB_append, sumB_append]
  omega
end
/-- the first zero of a text field -/
theorem txt_take (w : Nat) (t : List Nat) : (txt w t).take t.length = enc t := by
  unfold txt
  rw [← enc_length t, List.take_left]
theorem oct_eq_txt (k n : Nat) : oct k n = txt (k + 1) (octL k n) := by
  unfold oct txt
  rw [octL_length, Nat.add_sub_cancel_left]
  rfl
end Tar
end

section
set_option Elab.async false
set_option linter.all false
set_option maxRecDepth 100000
set_option maxHeartbeats 4000000
/-! The layer of this claim: promises of defs, what evaluates to what. -/
namespace Tl
open PySem PySem.Spec PyProof.Rows L2 Evl
/-! ### the text by places -/
def topS (i : Nat) : Stmt := PySem.Challenge.pw_tarhouse_k80_whole_torn_archives_unpacke.main.body.getD i (.Pass ⟨0, 0, 0, 0⟩)
open C8 (Cal Met Mak)
theorem fsc {N P : List Str} {st : Stmt} (h : C8.scC N P (defScope st) = true) : FnScope N P (defScope st) := C8.fnScope_by h
/-! ### promises: n arguments, R tells the value; P tells what holds of it -/
def spV (n : Nat) (R : List V → Hp → V → Prop) : Sp := fun vs H Q _ => vs.length = n ∧ ∃ z, R vs H z ∧ ∀ H', Ex H H' → Q z H'
def spP (n : Nat) (R : List V → Hp → (V → Hp → Prop) → Prop) : Sp := fun vs H Q _ => vs.length = n ∧ ∃ P, R vs H P ∧ ∀ z H', Ex H H' → P z H' → Q z H'
/-- what holds of the value that an expression gives -/
def EvP (te : TE) (σ : L2.St) (H : Hp) (P : V → Hp → Prop) : Prop := ∀ H1, Ex H H1 → ∀ Q : VK, (∀ v H2, Ex H1 H2 → P v H2 → Q v H2) → te σ H1 Q
def EvAP (ta : TA) (σ : L2.St) (H : Hp) (P : List V → Hp → Prop) : Prop := ∀ H1, Ex H H1 → ∀ Q : List V → Hp → Prop, (∀ v H2, Ex H1 H2 → P v H2 → Q v H2) → ta σ H1 Q
def Mo (P : V → Hp → Prop) : Prop := ∀ v H H', Ex H H' → P v H → P v H'
section
variable {σ : L2.St} {H H' : Hp} {ta te : TE} {tt : TT} {v z : V} {P : V → Hp → Prop} {K : PySem.W.Frag}
theorem ev_p (h : Ev te σ H v) : EvP te σ H (fun x _ => x = v) := fun H1 e Q q => h H1 e Q fun H2 e2 => q v H2 e2 rfl
theorem EvP.ev (h : EvP te σ H (fun x _ => x = v)) : Ev te σ H v := fun H1 e Q q => h H1 e Q fun x H2 e2 ex => by
  subst ex
  exact q H2 e2
theorem EvP.mono (e : Ex H H') (h : EvP te σ H P) : EvP te σ H' P := fun H1 a Q q => h H1 (e.trans a) Q q
theorem EvP.imp {P' : V → Hp → Prop} (h : EvP te σ H P) (k : ∀ x H1, Ex H H1 → P x H1 → P' x H1) : EvP te σ H P' := fun H1 e Q q => h H1 e Q fun x H2 e2 p => q x H2 e2 (k x H2 (e.trans e2) p)
theorem go_ev {Q : VK} (h : Ev te σ H v) (k : ∀ H1, Ex H H1 → Q v H1) : te σ H Q := h H (Ex.refl H) Q k
theorem go_p {Q : VK} (h : EvP te σ H P) (k : ∀ x H1, Ex H H1 → P x H1 → Q x H1) : te σ H Q := h H (Ex.refl H) Q k
theorem go_t {b : Bool} {Q : Bool → Hp → Prop} (h : EvT tt σ H b) (k : ∀ H1, Ex H H1 → Q b H1) : tt σ H Q := h H (Ex.refl H) Q k
theorem ea_p {ta : TA} {vs : List V} (h : EvA ta σ H vs) : EvAP ta σ H (fun x _ => x = vs) := fun H1 e Q q => h H1 e Q fun H2 e2 => q vs H2 e2 rfl
theorem eap_cons {ta : TA} {P2 : List V → Hp → Prop} (h : EvP te σ H P) (hr : ∀ x H1, Ex H H1 → P x H1 → EvAP ta σ H1 (fun vs H2 => P2 (x :: vs) H2)) : EvAP (tCons te ta) σ H P2 := fun H1 e Q q =>
  h H1 e _ fun x H2 e2 p => hr x H2 (e.trans e2) p H2 (Ex.refl H2) _ fun vs H3 e3 p3 => q _ H3 (e2.trans e3) p3
theorem ep_call {n : Nat} {R : List V → Hp → (V → Hp → Prop) → Prop} {ta : TA} {E : XK} {Pa : List V → Hp → Prop} (h : EvAP ta σ H Pa)
    (hr : ∀ vs H1, Ex H H1 → Pa vs H1 → vs.length = n ∧ R vs H1 P) : EvP (tCall (spP n R) [] E ta) σ H P := fun H1 e Q q =>
  h H1 e _ fun vs H2 e2 p => by
    obtain ⟨l, r⟩ := hr vs H2 (e.trans e2) p
    rw [List.append_nil]
    exact ⟨l, P, r, fun z H3 e3 pz => q z H3 (e2.trans e3) pz⟩
theorem ev_callV {n : Nat} {R : List V → Hp → V → Prop} {ta : TA} {E : XK} {vs : List V} (h : EvA ta σ H vs) (l : vs.length = n) (hr : ∀ H1, Ex H H1 → R vs H1 z) : Ev (tCall (spV n R) [] E ta) σ H z := fun H1 e Q q =>
  h H1 e _ fun H2 e2 => by
    rw [List.append_nil]
    exact ⟨l, z, hr H2 (e.trans e2), fun H3 e3 => q H3 (e2.trans e3)⟩
theorem ev_callVP {n : Nat} {R : List V → Hp → V → Prop} {ta : TA} {E : XK} {Pa : List V → Hp → Prop} (h : EvAP ta σ H Pa) (hr : ∀ vs H1, Ex H H1 → Pa vs H1 → vs.length = n ∧ R vs H1 z) : Ev (tCall (spV n R) [] E ta) σ H z := fun H1 e Q q =>
  h H1 e _ fun vs H2 e2 p => by
    obtain ⟨l, r⟩ := hr vs H2 (e.trans e2) p
    rw [List.append_nil]
    exact ⟨l, z, r, fun H3 e3 => q H3 (e2.trans e3)⟩
end
/-! ### the def of the module under a name, its arguments bound by place -/
structure DB (K : PySem.W.Frag) (mg : Str → Option Value) (x : Str) (st : Stmt) (ps : List Str) : Prop where
  ex : ∃ f fd, Fun K x x st f fd ∧ mg x = some (.ref f) ∧ Binds K fd ps []
section
variable {P : Program} {w : World} {K : PySem.W.Frag} {mg : Str → Option Value} {base : Heap}
theorem cal_of {x : Str} {st : Stmt} {N ps : List Str} {k : Nat} {sp : Sp} (F : DB K mg x st ps) (S : FnScope N ps (defScope st)) (len : ∀ vs H Q E, sp vs H Q E → vs.length = ps.length)
    (hbody : ∀ (f : Addr) (cdv : Value) (A : Around) (outer : List Env) (s : Shared) (H : Hp) (vs : List V) (Q : VK) (E : XK), Room k (A.deeper (envOfC x (defScope st) s.heap.objs.size f cdv)) → sp vs H Q E →
      ∃ t, PSs (cxOf L2.CX0 P w K mg base N x (defScope st) f cdv A outer s H E).nox (defBody st) t ∧ t { nx := fun _ H' => Q .non H', rt := Q } (start N vs) H) : Cal P w K mg base (k + 1) x sp [] := by
  obtain ⟨f, fd, F, hm, b⟩ := F.ex
  exact ⟨f, fd, ps, [], F.ok S len fun cdv A outer s H vs Q E hr h => hbody f cdv A outer s H vs Q E hr h, hm, F.kp, b, .nil⟩
end
/-! ### what the top has written -/
structure Ad where
  (cMember cFile cSparse cDir cSym cLink cHouse cRef : Addr)
  (aMADE aNUM aSIZES aLET : Addr)
  (nMode nOwner nGroup nSize nTime : Addr)
def Glb (mg : Str → Option Value) (x : Str) (v : V) : Prop := ∃ u, mg x = some u ∧ RelV v u
structure Txt (K : PySem.W.Frag) (mg : Str → Option Value) (a : Ad) : Prop where
  b_len : mg "len" = none
  b_all : mg "all" = none
  b_any : mg "any" = none
  b_sum : mg "sum" = none
  b_isinstance : mg "isinstance" = none
  b_ord : mg "ord" = none
  b_abs : mg "abs" = none
  b_min : mg "min" = none
  b_max : mg "max" = none
  b_sorted : mg "sorted" = none
  b_int : mg "int" = none
  b_bool : mg "bool" = none
  b_str : mg "str" = none
  b_bytes : mg "bytes" = none
  b_list : mg "list" = none
  b_tuple : mg "tuple" = none
  b_dict : mg "dict" = none
  b_range : mg "range" = none
  b_enumerate : mg "enumerate" = none
  b_zip : mg "zip" = none
  b_super : mg "super" = none
  g_LETTERS : Glb mg "LETTERS" (.str "abcdefghijklmnopqrstuvwxyz0123456789._-/")
  g_MOST_NAME : Glb mg "MOST_NAME" (.int 250)
  g_MOST_SHORT : Glb mg "MOST_SHORT" (.int 100)
  g_MOST_DATA : Glb mg "MOST_DATA" (.int 4096)
  g_MOST_PIECES : Glb mg "MOST_PIECES" (.int 50)
  g_MOST_MODE : Glb mg "MOST_MODE" (.int 4095)
  g_MOST_TIME : Glb mg "MOST_TIME" (.int 8589934591)
  g_BLOCK : Glb mg "BLOCK" (.int 512)
  g_LONG_NAME : Glb mg "LONG_NAME" (.str "././@LongLink")
  g_MAGIC : Glb mg "MAGIC" (.str "ustar")
  g_KINDS : Glb mg "KINDS" (.str "0S521KL")
  g_END_SIZE : Glb mg "END_SIZE" (.int 1024)
  g_MADE : Glb mg "MADE" (.ref a.aMADE)
  g_NUMBERS : Glb mg "NUMBERS" (.ref a.aNUM)
  g_SIZES : Glb mg "SIZES" (.ref a.aSIZES)
  g_LETTERS_OF : Glb mg "LETTERS_OF" (.ref a.aLET)
  c_Member : Glb mg "Member" (.ref a.cMember)
  c_File : Glb mg "File" (.ref a.cFile)
  c_Sparse : Glb mg "Sparse" (.ref a.cSparse)
  c_Directory : Glb mg "Directory" (.ref a.cDir)
  c_Symlink : Glb mg "Symlink" (.ref a.cSym)
  c_Link : Glb mg "Link" (.ref a.cLink)
  c_House : Glb mg "House" (.ref a.cHouse)
  c_Refused : Glb mg "Refused" (.ref a.cRef)
end Tl
end

section
set_option linter.all false
set_option maxRecDepth 100000
/-! The defs' places. -/
namespace Tl
open PySem PySem.Spec PyProof.Rows L2
abbrev vN (n : Nat) : V := .int ((n : Nat) : Int)
abbrev s_is_integer : Stmt := topS 13
abbrev s_is_within : Stmt := topS 14
abbrev s_blob : Stmt := topS 15
abbrev s_look_data : Stmt := topS 16
abbrev s_is_name : Stmt := topS 25
abbrev s_is_path : Stmt := topS 26
abbrev s_is_short : Stmt := topS 27
abbrev s_look_name : Stmt := topS 28
abbrev s_look_stamps : Stmt := topS 29
abbrev s_is_piece : Stmt := topS 30
abbrev s_are_spans : Stmt := topS 31
abbrev s_are_pieces : Stmt := topS 32
abbrev s_Member___init : Stmt := inClass (topS 33) 1
abbrev s_File___init : Stmt := inClass (topS 34) 1
abbrev s_Directory___init : Stmt := inClass (topS 36) 1
abbrev s_Symlink___init : Stmt := inClass (topS 37) 1
abbrev s_Link___init : Stmt := inClass (topS 38) 1
abbrev s_Sparse___init : Stmt := inClass (topS 35) 1
abbrev s_Member___eq : Stmt := inClass (topS 33) 2
abbrev s_File_content : Stmt := inClass (topS 34) 2
abbrev s_Sparse_content : Stmt := inClass (topS 35) 2
abbrev s_House___init : Stmt := inClass (topS 46) 0
abbrev s_House_set_thing : Stmt := inClass (topS 46) 2
abbrev s_House_has : Stmt := inClass (topS 46) 10
abbrev s_House_kind_at : Stmt := inClass (topS 46) 5
abbrev s_House_entries : Stmt := inClass (topS 46) 7
abbrev s_House_share : Stmt := inClass (topS 46) 3
abbrev s_House_settle : Stmt := inClass (topS 46) 4
abbrev s_House_copied : Stmt := inClass (topS 46) 6
abbrev s_above : Stmt := topS 41
abbrev s_refusal_at : Stmt := topS 50
abbrev s_refusal : Stmt := topS 49
abbrev s_put_at : Stmt := topS 51
abbrev s_Refused___init : Stmt := inClass (topS 11) 0
abbrev s_put_member : Stmt := topS 52
abbrev s_unpack_one : Stmt := topS 53
abbrev s_unpacked : Stmt := topS 55
abbrev s_walked : Stmt := topS 54
abbrev s_law_walk : Stmt := topS 108
abbrev s_law_house : Stmt := topS 107
abbrev s_text_field : Stmt := topS 63
abbrev s_magic_field : Stmt := topS 67
abbrev s_sum_of : Stmt := topS 65
abbrev s_octal_field : Stmt := topS 64
abbrev s_checksum_field : Stmt := topS 66
abbrev s_header : Stmt := topS 68
abbrev s_text_of : Stmt := topS 69
abbrev s_number_of : Stmt := topS 70
abbrev s_kind_of : Stmt := topS 72
abbrev s_name_of : Stmt := topS 73
abbrev s_target_of : Stmt := topS 74
abbrev s_numbers_of : Stmt := topS 71
abbrev s_is_name_right : Stmt := topS 75
abbrev s_is_target_right : Stmt := topS 78
abbrev s_is_kind_right : Stmt := topS 77
abbrev s_wrong_number : Stmt := topS 76
abbrev s_wrong_field : Stmt := topS 79
abbrev s_padded : Stmt := topS 84
abbrev s_map_block : Stmt := topS 85
abbrev s_stored : Stmt := topS 86
abbrev s_long_part : Stmt := topS 87
abbrev s_target_text : Stmt := topS 88
abbrev s_bytes_of : Stmt := topS 89
abbrev s_written : Stmt := topS 90
abbrev s_torn : Stmt := topS 93
abbrev s_sparse : Stmt := topS 96
abbrev s_at_header : Stmt := topS 97
abbrev s_look_at : Stmt := topS 98
abbrev s_scan : Stmt := topS 99
abbrev s_whole_numbers : Stmt := topS 94
abbrev s_spans_of : Stmt := topS 95
abbrev s_law_source : Stmt := topS 101
abbrev s_law_draw : Stmt := topS 102
abbrev s_law_random_numbers : Stmt := topS 103
abbrev s_law_stamps : Stmt := topS 104
abbrev s_law_made : Stmt := topS 105
abbrev s_law_plain_list : Stmt := topS 106
abbrev s_law_is_small_step : Stmt := topS 109
abbrev s_law : Stmt := topS 110
def bmRT : List Value := [.type "RuntimeError", .type "Exception", .type "BaseException", .type "object"]
def numRow (f : Str) (b n : Nat) : List V := [.str f, vN b, vN n]
end Tl
end

section
set_option Elab.async false
set_option linter.all false
set_option maxRecDepth 100000
set_option maxHeartbeats 0
/-! The head: what its Hook looks at. -/
namespace Tl
open PySem PySem.Spec PyProof.Rows L2
open He (ga ma fAd eqO relB conB tupB valsB)
def hfn : List He.DefD := [
  ⟨("is_integer", none), "is_integer", "is_integer", defArgs s_is_integer, defBody s_is_integer, defScope s_is_integer, [], []⟩,
  ⟨("is_within", none), "is_within", "is_within", defArgs s_is_within, defBody s_is_within, defScope s_is_within, [], []⟩,
  ⟨("blob", none), "blob", "blob", defArgs s_blob, defBody s_blob, defScope s_blob, [], []⟩,
  ⟨("look_data", none), "look_data", "look_data", defArgs s_look_data, defBody s_look_data, defScope s_look_data, [], []⟩,
  ⟨("is_name", none), "is_name", "is_name", defArgs s_is_name, defBody s_is_name, defScope s_is_name, [], []⟩,
  ⟨("is_path", none), "is_path", "is_path", defArgs s_is_path, defBody s_is_path, defScope s_is_path, [], []⟩,
  ⟨("is_short", none), "is_short", "is_short", defArgs s_is_short, defBody s_is_short, defScope s_is_short, [], []⟩,
  ⟨("look_name", none), "look_name", "look_name", defArgs s_look_name, defBody s_look_name, defScope s_look_name, [], []⟩,
  ⟨("look_stamps", none), "look_stamps", "look_stamps", defArgs s_look_stamps, defBody s_look_stamps, defScope s_look_stamps, [], []⟩,
  ⟨("is_piece", none), "is_piece", "is_piece", defArgs s_is_piece, defBody s_is_piece, defScope s_is_piece, [], []⟩,
  ⟨("are_spans", none), "are_spans", "are_spans", defArgs s_are_spans, defBody s_are_spans, defScope s_are_spans, [], []⟩,
  ⟨("are_pieces", none), "are_pieces", "are_pieces", defArgs s_are_pieces, defBody s_are_pieces, defScope s_are_pieces, [], []⟩,
  ⟨("above", none), "above", "above", defArgs s_above, defBody s_above, defScope s_above, [], []⟩,
  ⟨("refusal_at", none), "refusal_at", "refusal_at", defArgs s_refusal_at, defBody s_refusal_at, defScope s_refusal_at, [], []⟩,
  ⟨("refusal", none), "refusal", "refusal", defArgs s_refusal, defBody s_refusal, defScope s_refusal, [], []⟩,
  ⟨("put_at", none), "put_at", "put_at", defArgs s_put_at, defBody s_put_at, defScope s_put_at, [], []⟩,
  ⟨("put_member", none), "put_member", "put_member", defArgs s_put_member, defBody s_put_member, defScope s_put_member, [], []⟩,
  ⟨("unpack_one", none), "unpack_one", "unpack_one", defArgs s_unpack_one, defBody s_unpack_one, defScope s_unpack_one, [], []⟩,
  ⟨("unpacked", none), "unpacked", "unpacked", defArgs s_unpacked, defBody s_unpacked, defScope s_unpacked, [], []⟩,
  ⟨("_law_walk", none), "_law_walk", "_law_walk", defArgs s_law_walk, defBody s_law_walk, defScope s_law_walk, [], []⟩,
  ⟨("walked", none), "walked", "walked", defArgs s_walked, defBody s_walked, defScope s_walked, [], []⟩,
  ⟨("_law_house", none), "_law_house", "_law_house", defArgs s_law_house, defBody s_law_house, defScope s_law_house, [], []⟩,
  ⟨("text_field", none), "text_field", "text_field", defArgs s_text_field, defBody s_text_field, defScope s_text_field, [], []⟩,
  ⟨("magic_field", none), "magic_field", "magic_field", defArgs s_magic_field, defBody s_magic_field, defScope s_magic_field, [], []⟩,
  ⟨("sum_of", none), "sum_of", "sum_of", defArgs s_sum_of, defBody s_sum_of, defScope s_sum_of, [], []⟩,
  ⟨("octal_field", none), "octal_field", "octal_field", defArgs s_octal_field, defBody s_octal_field, defScope s_octal_field, [], []⟩,
  ⟨("checksum_field", none), "checksum_field", "checksum_field", defArgs s_checksum_field, defBody s_checksum_field, defScope s_checksum_field, [], []⟩,
  ⟨("header", none), "header", "header", defArgs s_header, defBody s_header, defScope s_header, [], []⟩,
  ⟨("text_of", none), "text_of", "text_of", defArgs s_text_of, defBody s_text_of, defScope s_text_of, [], []⟩,
  ⟨("number_of", none), "number_of", "number_of", defArgs s_number_of, defBody s_number_of, defScope s_number_of, [], []⟩,
  ⟨("kind_of", none), "kind_of", "kind_of", defArgs s_kind_of, defBody s_kind_of, defScope s_kind_of, [], []⟩,
  ⟨("name_of", none), "name_of", "name_of", defArgs s_name_of, defBody s_name_of, defScope s_name_of, [], []⟩,
  ⟨("target_of", none), "target_of", "target_of", defArgs s_target_of, defBody s_target_of, defScope s_target_of, [], []⟩,
  ⟨("numbers_of", none), "numbers_of", "numbers_of", defArgs s_numbers_of, defBody s_numbers_of, defScope s_numbers_of, [], []⟩,
  ⟨("is_name_right", none), "is_name_right", "is_name_right", defArgs s_is_name_right, defBody s_is_name_right, defScope s_is_name_right, [], []⟩,
  ⟨("is_target_right", none), "is_target_right", "is_target_right", defArgs s_is_target_right, defBody s_is_target_right, defScope s_is_target_right, [], []⟩,
  ⟨("is_kind_right", none), "is_kind_right", "is_kind_right", defArgs s_is_kind_right, defBody s_is_kind_right, defScope s_is_kind_right, [], []⟩,
  ⟨("wrong_number", none), "wrong_number", "wrong_number", defArgs s_wrong_number, defBody s_wrong_number, defScope s_wrong_number, [], []⟩,
  ⟨("wrong_field", none), "wrong_field", "wrong_field", defArgs s_wrong_field, defBody s_wrong_field, defScope s_wrong_field, [], []⟩,
  ⟨("padded", none), "padded", "padded", defArgs s_padded, defBody s_padded, defScope s_padded, [], []⟩,
  ⟨("map_block", none), "map_block", "map_block", defArgs s_map_block, defBody s_map_block, defScope s_map_block, [], []⟩,
  ⟨("stored", none), "stored", "stored", defArgs s_stored, defBody s_stored, defScope s_stored, [], []⟩,
  ⟨("long_part", none), "long_part", "long_part", defArgs s_long_part, defBody s_long_part, defScope s_long_part, [], []⟩,
  ⟨("target_text", none), "target_text", "target_text", defArgs s_target_text, defBody s_target_text, defScope s_target_text, [], []⟩,
  ⟨("bytes_of", none), "bytes_of", "bytes_of", defArgs s_bytes_of, defBody s_bytes_of, defScope s_bytes_of, [], []⟩,
  ⟨("written", none), "written", "written", defArgs s_written, defBody s_written, defScope s_written, [], []⟩,
  ⟨("torn", none), "torn", "torn", defArgs s_torn, defBody s_torn, defScope s_torn, [], []⟩,
  ⟨("sparse", none), "sparse", "sparse", defArgs s_sparse, defBody s_sparse, defScope s_sparse, [], []⟩,
  ⟨("at_header", none), "at_header", "at_header", defArgs s_at_header, defBody s_at_header, defScope s_at_header, [], []⟩,
  ⟨("look_at", none), "look_at", "look_at", defArgs s_look_at, defBody s_look_at, defScope s_look_at, [], []⟩,
  ⟨("scan", none), "scan", "scan", defArgs s_scan, defBody s_scan, defScope s_scan, [], [("offset", .int 0)]⟩,
  ⟨("whole_numbers", none), "whole_numbers", "whole_numbers", defArgs s_whole_numbers, defBody s_whole_numbers, defScope s_whole_numbers, [], []⟩,
  ⟨("spans_of", none), "spans_of", "spans_of", defArgs s_spans_of, defBody s_spans_of, defScope s_spans_of, [], []⟩,
  ⟨("_law_source", none), "_law_source", "_law_source", defArgs s_law_source, defBody s_law_source, defScope s_law_source, [], []⟩,
  ⟨("_law_draw", none), "_law_draw", "_law_draw", defArgs s_law_draw, defBody s_law_draw, defScope s_law_draw, [], []⟩,
  ⟨("_law_random_numbers", none), "_law_random_numbers", "_law_random_numbers", defArgs s_law_random_numbers, defBody s_law_random_numbers, defScope s_law_random_numbers, [], []⟩,
  ⟨("_law_stamps", none), "_law_stamps", "_law_stamps", defArgs s_law_stamps, defBody s_law_stamps, defScope s_law_stamps, [], []⟩,
  ⟨("_law_made", none), "_law_made", "_law_made", defArgs s_law_made, defBody s_law_made, defScope s_law_made, [], []⟩,
  ⟨("_law_plain_list", none), "_law_plain_list", "_law_plain_list", defArgs s_law_plain_list, defBody s_law_plain_list, defScope s_law_plain_list, [], []⟩,
  ⟨("_law_is_small_step", none), "_law_is_small_step", "_law_is_small_step", defArgs s_law_is_small_step, defBody s_law_is_small_step, defScope s_law_is_small_step, [], []⟩,
  ⟨("law", none), "law", "law", defArgs s_law, defBody s_law, defScope s_law, [], []⟩,
  ⟨("Member", some "__init__"), "__init__", "Member.__init__", defArgs s_Member___init, defBody s_Member___init, defScope s_Member___init, [], []⟩,
  ⟨("Member", some "__eq__"), "__eq__", "Member.__eq__", defArgs s_Member___eq, defBody s_Member___eq, defScope s_Member___eq, [], []⟩,
  ⟨("File", some "content"), "content", "File.content", defArgs s_File_content, defBody s_File_content, defScope s_File_content, [], []⟩,
  ⟨("Sparse", some "content"), "content", "Sparse.content", defArgs s_Sparse_content, defBody s_Sparse_content, defScope s_Sparse_content, [], []⟩,
  ⟨("House", some "__init__"), "__init__", "House.__init__", defArgs s_House___init, defBody s_House___init, defScope s_House___init, [], []⟩,
  ⟨("House", some "set_thing"), "set_thing", "House.set_thing", defArgs s_House_set_thing, defBody s_House_set_thing, defScope s_House_set_thing, [], []⟩,
  ⟨("House", some "has"), "has", "House.has", defArgs s_House_has, defBody s_House_has, defScope s_House_has, [], []⟩,
  ⟨("House", some "kind_at"), "kind_at", "House.kind_at", defArgs s_House_kind_at, defBody s_House_kind_at, defScope s_House_kind_at, [], []⟩,
  ⟨("House", some "entries"), "entries", "House.entries", defArgs s_House_entries, defBody s_House_entries, defScope s_House_entries, [], []⟩,
  ⟨("House", some "share"), "share", "House.share", defArgs s_House_share, defBody s_House_share, defScope s_House_share, [], []⟩,
  ⟨("House", some "settle"), "settle", "House.settle", defArgs s_House_settle, defBody s_House_settle, defScope s_House_settle, [], []⟩,
  ⟨("House", some "copied"), "copied", "House.copied", defArgs s_House_copied, defBody s_House_copied, defScope s_House_copied, [], []⟩]
def hfa : List He.Fa := [.glo "is_integer", .glo "is_within", .glo "blob", .glo "look_data", .glo "is_name", .glo "is_path", .glo "is_short", .glo "look_name", .glo "look_stamps", .glo "is_piece", .glo "are_spans", .glo "are_pieces", .glo "above", .glo "refusal_at", .glo "refusal", .glo "put_at", .glo "put_member", .glo "unpack_one", .glo "unpacked", .glo "_law_walk", .glo "walked", .glo "_law_house", .glo "text_field", .glo "magic_field", .glo "sum_of", .glo "octal_field", .glo "checksum_field", .glo "header", .glo "text_of", .glo "number_of", .glo "kind_of", .glo "name_of", .glo "target_of", .glo "numbers_of", .glo "is_name_right", .glo "is_target_right", .glo "is_kind_right", .glo "wrong_number", .glo "wrong_field", .glo "padded", .glo "map_block", .glo "stored", .glo "long_part", .glo "target_text", .glo "bytes_of", .glo "written", .glo "torn", .glo "sparse", .glo "at_header", .glo "look_at", .glo "scan", .glo "whole_numbers", .glo "spans_of", .glo "_law_source", .glo "_law_draw", .glo "_law_random_numbers", .glo "_law_stamps", .glo "_law_made", .glo "_law_plain_list", .glo "_law_is_small_step", .glo "law", .glo "MADE", .glo "NUMBERS", .glo "SIZES", .glo "LETTERS_OF", .glo "Member", .glo "File", .glo "Sparse", .glo "Directory", .glo "Symlink", .glo "Link", .glo "House", .glo "Refused", .free "len", .free "all", .free "any", .free "sum", .free "isinstance", .free "ord", .free "abs", .free "min", .free "max", .free "sorted", .free "int", .free "bool", .free "str", .free "bytes", .free "list", .free "tuple", .free "dict", .free "range", .free "enumerate", .free "zip", .free "super", .str "LETTERS" "abcdefghijklmnopqrstuvwxyz0123456789._-/", .str "LONG_NAME" "././@LongLink", .str "MAGIC" "ustar", .str "KINDS" "0S521KL", .int "MOST_NAME" 250, .int "MOST_SHORT" 100, .int "MOST_DATA" 4096, .int "MOST_PIECES" 50, .int "MOST_MODE" 4095, .int "MOST_TIME" 8589934591, .int "BLOCK" 512, .int "END_SIZE" 1024, .cls "File", .cls "Sparse", .cls "Directory", .cls "Symlink", .cls "Link", .cls "House", .noat "File" "name", .noat "File" "mode", .noat "File" "time", .noat "File" "key", .noat "File" "data", .noat "Sparse" "name", .noat "Sparse" "mode", .noat "Sparse" "time", .noat "Sparse" "key", .noat "Sparse" "size", .noat "Sparse" "pieces", .noat "Directory" "name", .noat "Directory" "mode", .noat "Directory" "time", .noat "Directory" "key", .noat "Symlink" "name", .noat "Symlink" "mode", .noat "Symlink" "time", .noat "Symlink" "key", .noat "Symlink" "target", .noat "Link" "name", .noat "Link" "mode", .noat "Link" "time", .noat "Link" "key", .noat "Link" "target", .noat "House" "standing", .noat "House" "files", .noat "House" "rows", .mkr "File", .mkr "Sparse", .mkr "Directory", .mkr "Symlink", .mkr "Link", .mkr "House", .meth "Member" "__eq__", .meth "File" "content", .meth "Sparse" "content", .meth "House" "set_thing", .meth "House" "has", .meth "House" "kind_at", .meth "House" "entries", .meth "House" "share", .meth "House" "settle", .meth "House" "copied"]
def hts : List He.Tab := [((fun K => ga K "LETTERS_OF"), ["file", "sparse", "directory", "symlink", "link"]), ((fun K => ga K "SIZES"), ["0", "S", "K", "L"])]
/-- an address of a tuple's item -/
def itA (K : PySem.W.Frag) (t : Addr) (i : Nat) : Addr := match K.lookup t with
  | some ⟨_, _, .seq its _, _⟩ => (match its.toList[i]? with
    | some (.ref b) => b
    | _ => 0)
  | _ => 0
/-- the value at a dict's key, if an object -/
def dcA (K : PySem.W.Frag) (d : Addr) (x : Str) : Addr := match PySem.W.nsIn K d x with
  | some (some (.ref b)) => b
  | _ => 0
/-- a tuple at an address -/
def tpB (K : PySem.W.Frag) (t : Addr) (vs : List V) : Bool := match K.lookup t with
  | some ⟨.type c, _, .seq its _, _⟩ => decide (c = "tuple") && (decide (its.size ≤ sizeLine) && He.relAll vs its.toList)
  | _ => false
abbrev SuW : Type := Option (Str × Str × Arguments × FuncBody × Scope × Addr × List Str × Addr)
/-- a def with the cell of its class -/
def suW (K : PySem.W.Frag) (C : Str) : SuW := match K.lookup (fAd K (C, some "__init__")) with
  | some ⟨_, _, .func fd, _⟩ => some (fd.name, fd.qualname, fd.params, fd.body, fd.scope, fd.globals, fd.closure.map (·.1), fd.builtins)
  | _ => none
def suV (q : Str) (st : Stmt) : SuW := some ("__init__", q, C8.fnArgs st, .stmts (C8.fnBody st), C8.fnScope st, mainGlobals, ["__class__"], builtinsNs)
def cellB (K : PySem.W.Frag) (cc D : Addr) : Bool := match K.lookup cc with
  | some ⟨_, _, .cell (some (.ref d)), _⟩ => decide (d = D)
  | _ => false
def fileB (P : Program) (K : PySem.W.Frag) (c : Value) : Bool := match c with
  | .ref a => (match K.lookup a with
    | some ⟨_, _, .fields vs, _⟩ => (match (vs[2]? : Option Value) with
      | some (Value.str file _) => P.main.file == file
      | _ => false)
    | _ => false)
  | _ => false
def noneB : Value → Bool
  | .none => true
  | _ => false
def refB : Value → Bool
  | .ref _ => true
  | _ => false
/-- the facts of a def that calls super().__init__: the class C, the def's qualified name, whether it has keyword-only defaults -/
def suB (P : Program) (K : PySem.W.Frag) (C q : Str) (kw : Bool) : Bool := match K.lookup (fAd K (C, some "__init__")) with
  | some ⟨_, _, .func fd, _⟩ => PySem.W.codeIn K fd.code q && (noneB fd.defaults && ((if kw then refB fd.kwdefaults else noneB fd.kwdefaults) && ((match fd.closure with
      | [(_, cc)] => cellB K cc (ga K C)
      | _ => false) && ((PySem.W.clsIn K (ga K C)).isSome && (fileB P K fd.code && decide (PySem.W.mroIn K (ga K C) (.ref (ga K C)) = some true))))))
  | _ => false
/-- .. of the five members' classes -/
def su5 (K : PySem.W.Frag) (C : Str) : Bool := eqO (PySem.W.ks_superIn K (ga K C) (ga K C) "__init__") (some (some (.ref (ma K (ga K "Member") "__init__"))))
def miniB (K : PySem.W.Frag) : Bool := match K.lookup (ma K (ga K "Member") "__init__") with
  | some ⟨c, _, .func fd, _⟩ => noneB fd.defaults && (noneB fd.kwdefaults && decide (c = .type "function"))
  | _ => false
def insB (K : PySem.W.Frag) (C : Str) : Bool := eqO (PySem.W.findIn K (.ref (ga K C)) "__class__") (some (some (.builtin "object.__class__"))) && (decide (PySem.W.mroIn K (ga K C) (.type "object") = some true) && (decide (PySem.W.kitOne K (.ref (ga K C)) (.ref (ga K C)) = some true) && (decide (PySem.W.kitOne K (.ref (ga K C)) (.ref (ga K "Member")) = some true) && eqO (PySem.W.findIn K (.ref (ga K C)) "__eq__") (some (some (.ref (ma K (ga K "Member") "__eq__")))))))
def rfB (K : PySem.W.Frag) : List Bool := let C := ga K "Refused"
  [PySem.W.excInitIn K C bmRT "RuntimeError.__new__", PySem.W.excOver K C bmRT, PySem.W.hasDictIn K C, eqO (PySem.W.findIn K (.ref C) "__setattr__") (some (some (.builtin "object.__setattr__"))), decide (PySem.W.subIn K (.ref C) (.type "BaseException") = some true), decide (PySem.W.subIn K (.ref C) (.type "RuntimeError") = some true),
   decide (PySem.W.typeIn K (.ref C) = some (.type "type")), PySem.W.keepIn K (.ref C), eqO (PySem.W.takerIn K C "index") (some none), eqO (PySem.W.takerIn K C "word") (some none), eqO (PySem.W.findIn K (.ref C) "__getattribute__") (some (some (.builtin "BaseException.__getattribute__"))), eqO (PySem.W.findIn K (.ref C) "__getattr__") (some none), eqO (PySem.W.findIn K (.ref C) "index") (some none), eqO (PySem.W.findIn K (.ref C) "word") (some none),
   decide (PySem.W.exmOne K (.ref C) (.ref C) = some true), decide (PySem.W.subIn K (.ref C) (.type "StopIteration") = some false), eqO (PySem.W.findIn K (.ref C) "__init__") (some (some (.ref (ma K C "__init__")))), decide (PySem.W.typeIn K (.ref (ma K C "__init__")) = some (.type "function")), eqO (PySem.W.ks_superIn K C C "__init__") (some (some (.builtin "RuntimeError.__init__")))]
def exB (P : Program) (K : PySem.W.Frag) : List Bool := [
  suB P K "File" "File.__init__" true, su5 K "File", insB K "File", conB K "File" "KIND" (.str "file"), suB P K "Sparse" "Sparse.__init__" true, su5 K "Sparse", insB K "Sparse", conB K "Sparse" "KIND" (.str "sparse"), suB P K "Directory" "Directory.__init__" true, su5 K "Directory", insB K "Directory", conB K "Directory" "KIND" (.str "directory"), suB P K "Symlink" "Symlink.__init__" true, su5 K "Symlink", insB K "Symlink", conB K "Symlink" "KIND" (.str "symlink"), suB P K "Link" "Link.__init__" true, su5 K "Link", insB K "Link", conB K "Link" "KIND" (.str "link"),
  miniB K, PySem.W.fnIn K (ma K (ga K "Member") "__init__"), eqO (PySem.W.nsIn K cStatics "thirdparty.any") (some none),
  eqO (PySem.W.specialIn K (.builtin "object.__class__") "__get__") (some (some (.builtin "getset_descriptor.__get__"))), decide (PySem.W.takesIn K (.builtin "object.__class__") = some true),
  tpB K (ga K "MADE") [.str "directory", vN 493, vN 0], tpB K (ga K "NUMBERS") ((List.range 5).map fun i => .ref (itA K (ga K "NUMBERS") i)),
  tpB K (itA K (ga K "NUMBERS") 0) (numRow "mode" 100 8), tpB K (itA K (ga K "NUMBERS") 1) (numRow "owner" 108 8), tpB K (itA K (ga K "NUMBERS") 2) (numRow "group" 116 8), tpB K (itA K (ga K "NUMBERS") 3) (numRow "size" 124 12), tpB K (itA K (ga K "NUMBERS") 4) (numRow "time" 136 12),
  eqO (PySem.W.nsIn K (ga K "SIZES") "0") (some (some (.ref (dcA K (ga K "SIZES") "0")))), eqO (PySem.W.nsIn K (ga K "SIZES") "S") (some (some (.ref (dcA K (ga K "SIZES") "S")))), tpB K (dcA K (ga K "SIZES") "0") [vN 0, vN 4096], tpB K (dcA K (ga K "SIZES") "S") [vN 512, vN 4608],
  eqO (PySem.W.nsIn K (ga K "SIZES") "5") (some none), eqO (PySem.W.nsIn K (ga K "SIZES") "2") (some none), eqO (PySem.W.nsIn K (ga K "SIZES") "1") (some none),
  valsB K (ga K "LETTERS_OF") [("file", .str "0"), ("sparse", .str "S"), ("directory", .str "5"), ("symlink", .str "2"), ("link", .str "1")],
  suB P K "Refused" "Refused.__init__" false,
  !(ga K "File" == ga K "House"), !(ga K "Sparse" == ga K "House"), !(ga K "Directory" == ga K "House"), !(ga K "Symlink" == ga K "House"), !(ga K "Link" == ga K "House")] ++ rfB K
abbrev AlH : Type := He.AlT × List Bool × List SuW
def obsH (P : Program) (K : PySem.W.Frag) : AlH := (He.obsT hfa hfn hts K, exB P K, [suW K "File", suW K "Sparse", suW K "Directory", suW K "Symlink", suW K "Link", suW K "Refused"])
def valH (n : Nat) (w : World) : AlH := (He.valT hfn hts w, List.replicate n true, [suV "File.__init__" s_File___init, suV "Sparse.__init__" s_Sparse___init, suV "Directory.__init__" s_Directory___init, suV "Symlink.__init__" s_Symlink___init, suV "Link.__init__" s_Link___init, suV "Refused.__init__" s_Refused___init])
def hN : Nat := 946
def hB : Nat := 65
abbrev hR : PySem.W.OpenRow := PySem.W.OpenLaw.row PySem.Challenge.rw_tarhouse_k80_whole_torn_archives_unpacke
abbrev hP : Program := PySem.Challenge.pw_tarhouse_k80_whole_torn_archives_unpacke
def hK (g : Addr → Option Obj) : PySem.W.Frag := He.frG g (List.range hN).reverse
def hkH : PySem.W.Hook where
  α := AlH
  obs := fun s => obsH hP (hK s.heap.get?)
  val := fun w => valH hB w
  says := fun w h => ∃ K : PySem.W.Frag, K.In h ∧ obsH hP K = valH hB w
  of := fun _ _ e => ⟨_, He.frG_in, e⟩
  keeps := fun _ _ _ ⟨K, hK, c⟩ k => ⟨K, PySem.W.Frag.In.keeps hK k, c⟩
def obT (s : PySem.W.SharedT) : AlH := obsH hP (hK (HandSHeadRun.getT s))
theorem obT_eq (s : PySem.W.SharedT) : obT s = hkH.obs s.abs := by
  have e : HandSHeadRun.getT s = s.abs.heap.get? := funext (HandSHeadRun.getT_eq s)
  show obsH hP (hK (HandSHeadRun.getT s)) = obsH hP (hK s.abs.heap.get?)
  rw [e]

def hn0 : List PySem.Str := ["_wall", "NoBlob", "NoData", "NoName", "NoMode", "NoTime", "NoSize", "NoPieces", "NoOffset", "NoHouse", "Refused", "is_integer", "is_within", "blob", "look_data", "LETTERS", "MOST_NAME", "MOST_SHORT", "MOST_DATA", "MOST_PIECES", "MOST_MODE", "MOST_TIME", "is_name", "is_path", "is_short", "look_name", "look_stamps", "is_piece", "are_spans", "are_pieces"]
def hn1 : List PySem.Str := ["Member", "File", "Sparse", "Directory", "Symlink", "Link", "TITLES", "above", "are_stamps", "is_thing", "is_entry", "are_of_one_house", "House", "MADE", "refusal", "refusal_at", "put_at", "put_member", "unpack_one", "walked", "unpacked", "BLOCK", "LONG_NAME", "MAGIC", "KINDS", "NUMBERS", "SIZES", "text_field", "octal_field", "sum_of"]
def hn2 : List PySem.Str := ["checksum_field", "magic_field", "header", "text_of", "number_of", "numbers_of", "kind_of", "name_of", "target_of", "is_name_right", "wrong_number", "is_kind_right", "is_target_right", "wrong_field", "is_text_of", "LETTERS_OF", "END_SIZE", "padded", "map_block", "stored", "long_part", "target_text", "bytes_of", "written", "wrong", "torn", "whole_numbers", "spans_of", "sparse", "at_header"]
def hn3 : List PySem.Str := ["look_at", "scan", "_law_source", "_law_draw", "_law_random_numbers", "_law_stamps", "_law_made", "_law_plain_list", "_law_house", "_law_walk", "_law_is_small_step"]
def hnames : List PySem.Str := hn0 ++ hn1 ++ hn2 ++ hn3
abbrev hRE (w : World) : Prop := HandSHeadRun.RunEq hR (PySem.W.view hR.prog [110]) hkH obT 8000 hnames w
end Tl
end

section
set_option Elab.async false
set_option linter.all false
set_option maxRecDepth 100000
namespace Tl
open PySem PySem.Spec PyProof.Rows L2
/-- a part of what is looked at -/
abbrev hkp (β : Type) (o : PySem.W.Frag → β) (v : World → β) : PySem.W.Hook where
  α := β
  obs := fun s => o (hK s.heap.get?)
  val := v
  says := fun w h => ∃ K : PySem.W.Frag, K.In h ∧ o K = v w
  of := fun _ _ e => ⟨_, He.frG_in, e⟩
  keeps := fun _ _ _ ⟨K, hK, c⟩ k => ⟨K, PySem.W.Frag.In.keeps hK k, c⟩
def obp {β : Type} (o : PySem.W.Frag → β) (s : PySem.W.SharedT) : β := o (hK (HandSHeadRun.getT s))
abbrev hREp (β : Type) (o : PySem.W.Frag → β) (v : World → β) (w : World) : Prop := HandSHeadRun.RunEq hR (PySem.W.view hR.prog [110]) (hkp β o v) (obp o) 8000 hnames w
end Tl
end

section
set_option Elab.async false
set_option linter.all false
set_option maxRecDepth 100000
set_option maxHeartbeats 0
namespace Tl
open PySem PySem.Spec PyProof.Rows L2
theorem run_TrA (w : World) : hREp (List Bool × (List (Option (List (Option (PySem.Str × Int)))) × List SuW)) (fun K => (exB hP K, (hts.map fun t => He.dicW K (t.1 K), [suW K "File", suW K "Sparse", suW K "Directory", suW K "Symlink", suW K "Link", suW K "Refused"]))) (fun w : World => (List.replicate hB true, (hts.map fun t => some (He.keysIn w.params t.2), [suV "File.__init__" s_File___init, suV "Sparse.__init__" s_Sparse___init, suV "Directory.__init__" s_Directory___init, suV "Symlink.__init__" s_Symlink___init, suV "Link.__init__" s_Link___init, suV "Refused.__init__" s_Refused___init]))) (w.withFollow "special-get-raises" false) := by
  intro os
  kernel_rfl
end Tl
end

section
set_option Elab.async false
set_option linter.all false
set_option maxRecDepth 100000
set_option maxHeartbeats 0
namespace Tl
open PySem PySem.Spec PyProof.Rows L2
theorem run_TrB (w : World) : hREp (List He.FnW) (fun K => hfn.map fun d => He.fnW K d.at_) (fun w : World => hfn.map He.DefD.val) (w.withFollow "special-get-raises" false) := by
  intro os
  kernel_rfl
end Tl
end

section
set_option Elab.async false
set_option linter.all false
set_option maxRecDepth 100000
set_option maxHeartbeats 0
namespace Tl
open PySem PySem.Spec PyProof.Rows L2
theorem run_TrC (w : World) : hREp (List Bool) (fun K => hfa.map fun f => f.ok K) (fun w : World => List.replicate hfa.length true) (w.withFollow "special-get-raises" false) := by
  intro os
  kernel_rfl
end Tl
end

section
set_option Elab.async false
set_option linter.all false
set_option maxRecDepth 100000
set_option maxHeartbeats 0
namespace Tl
open PySem PySem.Spec PyProof.Rows L2
theorem run_TrE (w : World) : hREp (List Bool) (fun K => (hfn.take 31).map fun d => d.ok K) (fun w : World => List.replicate (hfn.take 31).length true) (w.withFollow "special-get-raises" false) := by
  intro os
  kernel_rfl
end Tl
end

section
set_option Elab.async false
set_option linter.all false
set_option maxRecDepth 100000
set_option maxHeartbeats 0
namespace Tl
open PySem PySem.Spec PyProof.Rows L2
theorem run_TrG (w : World) : hREp (List Bool) (fun K => (hfn.drop 31).map fun d => d.ok K) (fun w : World => List.replicate (hfn.drop 31).length true) (w.withFollow "special-get-raises" false) := by
  intro os
  kernel_rfl
end Tl
end

section
set_option Elab.async false
set_option linter.all false
set_option maxRecDepth 100000
set_option maxHeartbeats 0
namespace Tl
open PySem PySem.Spec PyProof.Rows L2
theorem run_TrAt (w : World) : hREp (List Bool × (List (Option (List (Option (PySem.Str × Int)))) × List SuW)) (fun K => (exB hP K, (hts.map fun t => He.dicW K (t.1 K), [suW K "File", suW K "Sparse", suW K "Directory", suW K "Symlink", suW K "Link", suW K "Refused"]))) (fun w : World => (List.replicate hB true, (hts.map fun t => some (He.keysIn w.params t.2), [suV "File.__init__" s_File___init, suV "Sparse.__init__" s_Sparse___init, suV "Directory.__init__" s_Directory___init, suV "Symlink.__init__" s_Symlink___init, suV "Link.__init__" s_Link___init, suV "Refused.__init__" s_Refused___init]))) (w.withFollow "special-get-raises" true) := by
  intro os
  kernel_rfl
end Tl
end

section
set_option Elab.async false
set_option linter.all false
set_option maxRecDepth 100000
set_option maxHeartbeats 0
namespace Tl
open PySem PySem.Spec PyProof.Rows L2
theorem run_TrBt (w : World) : hREp (List He.FnW) (fun K => hfn.map fun d => He.fnW K d.at_) (fun w : World => hfn.map He.DefD.val) (w.withFollow "special-get-raises" true) := by
  intro os
  kernel_rfl
end Tl
end

section
set_option Elab.async false
set_option linter.all false
set_option maxRecDepth 100000
set_option maxHeartbeats 0
namespace Tl
open PySem PySem.Spec PyProof.Rows L2
theorem run_TrCt (w : World) : hREp (List Bool) (fun K => hfa.map fun f => f.ok K) (fun w : World => List.replicate hfa.length true) (w.withFollow "special-get-raises" true) := by
  intro os
  kernel_rfl
end Tl
end

section
set_option Elab.async false
set_option linter.all false
set_option maxRecDepth 100000
set_option maxHeartbeats 0
namespace Tl
open PySem PySem.Spec PyProof.Rows L2
theorem run_TrEt (w : World) : hREp (List Bool) (fun K => (hfn.take 31).map fun d => d.ok K) (fun w : World => List.replicate (hfn.take 31).length true) (w.withFollow "special-get-raises" true) := by
  intro os
  kernel_rfl
end Tl
end

section
set_option Elab.async false
set_option linter.all false
set_option maxRecDepth 100000
set_option maxHeartbeats 0
namespace Tl
open PySem PySem.Spec PyProof.Rows L2
theorem run_TrGt (w : World) : hREp (List Bool) (fun K => (hfn.drop 31).map fun d => d.ok K) (fun w : World => List.replicate (hfn.drop 31).length true) (w.withFollow "special-get-raises" true) := by
  intro os
  kernel_rfl
end Tl
end

section
set_option Elab.async false
set_option linter.all false
set_option maxRecDepth 100000
set_option maxHeartbeats 4000000
/-! What evaluates to what: further rules. -/
namespace Tl
open PySem PySem.Spec PyProof.Rows L2 Evl
/-! ### heaps, up to lists -/
def ExL (H H' : Hp) : Prop := ∀ a o, H a = some o → (∀ xs, o ≠ .lst xs) → H' a = some o
theorem ExL.of {H H' : Hp} (e : Ex H H') : ExL H H' := fun a o h _ => e a o h
theorem ExL.trans {H H1 H2 : Hp} (a : ExL H H1) (b : ExL H1 H2) : ExL H H2 := fun x o h n => b x o (a x o h n) n
theorem ExL.put {H : Hp} {D : Addr} {xs : List V} {o : HO} (h : H D = some (.lst xs)) : ExL H (upd H D o) := fun a u e n => by
  by_cases q : a = D
  · subst q
    rw [h] at e
    cases e
    exact absurd rfl (n xs)
  · rw [upd_ne q]
    exact e
def St1 (P : V → Hp → Prop) : Prop := ∀ v H H', ExL H H' → P v H → P v H'
theorem st1_eq (z : V) : St1 (fun x _ => x = z) := fun _ _ _ _ h => h
section
variable {σ σ' : L2.St} {H H' : Hp} {ta tb tc te : TE} {tt tu : TT} {v x y z : V} {P : V → Hp → Prop} {K : PySem.W.Frag} {b c : Bool} {i j k : Int}
theorem tyx_mono {t : Value} (e : Ex H H') (h : L2.TyX K H x t) : L2.TyX K H' x t := by
  cases h with
  | base h =>
    refine .base ?_
    cases h with
    | non => exact .non
    | bl b => exact .bl b
    | int i => exact .int i
    | str y => exact .str y
    | flt y => exact .flt y
    | lst ea => exact .lst (e _ _ ea)
    | frz ea => exact .frz (e _ _ ea)
    | tup ea => exact .tup (e _ _ ea)
    | dK ea => exact .dK (e _ _ ea)
    | dT ea => exact .dT (e _ _ ea)
    | ins ea cl ha hn htk hm => exact .ins (e _ _ ea) cl ha hn htk hm
  | byt y => exact .byt y
  | set ea => exact .set (e _ _ ea)
  | kList e1 c => exact .kList e1 c
  | kTuple e1 c => exact .kTuple e1 c
  | kDict e1 c => exact .kDict e1 c
  | fTuple ea => exact .fTuple (e _ _ ea)
  | fDict ea => exact .fDict (e _ _ ea)
/-- isinstance(x, c) -/
theorem ev_isi {t u : Value} {c : V} {b : Bool} (ha : Ev ta σ H x) (hc : Ev tc σ H c) (k : ClsV c u) (ty : L2.TyX K H x t) (h : PySem.W.kitOne K t u = some b) : Ev (tCB (rIsi K) (tCons ta (tCons tc tNil))) σ H (.bl b) := fun H1 e Q q =>
  ha H1 e _ fun H2 e2 => hc H2 (e.trans e2) _ fun H3 e3 => ⟨x, c, t, u, b, rfl, k, tyx_mono ((e.trans e2).trans e3) ty, h, q H3 (e2.trans e3)⟩
theorem ev_isiB {n m : String} {b : Bool} (ha : Ev ta σ H x) (ty : L2.TyX K H x (.type n)) (h : kitB n m = some b) : Ev (tCB (rIsi K) (tCons ta (tCons (tC (.ty m)) tNil))) σ H (.bl b) :=
  ev_isi ha ev_c (.ty m) ty (kit_ty h)
/-- isinstance(x, (c1, c2)) -/
theorem ev_isiT {t : Value} {cs : List V} {us : List Value} {b : Bool} {tl : TA} (ha : Ev ta σ H x) (hc : EvA tl σ H cs) (hl : cs.length ≤ 1000) (k : Paired ClsV cs us) (ty : L2.TyX K H x t) (h : PySem.W.kitAny K t us = some b) : Ev (tCB (rIsiT K) (tCons ta (tCons (tTup tl) tNil))) σ H (.bl b) := fun H1 e Q q =>
  ha H1 e _ fun H2 e2 => eu_tup hc (Nat.le_trans hl (by decide)) H2 (e.trans e2) _ fun p H3 _ e3 hp => ⟨x, p, cs, t, us, b, rfl, hp, k, tyx_mono ((e.trans e2).trans e3) ty, h, q H3 (e2.trans e3)⟩
theorem ev_chain {g g' : Int → Int → Bool} (ha : Ev ta σ H (.int i)) (hb : Ev tb σ H (.int j)) (hc : Ev tc σ H (.int k)) : Ev (tChain (rI0 fun i j => .bl (g i j)) (rI0 fun i j => .bl (g' i j)) ta tb tc) σ H (.bl (g i j && g' j k)) := fun H1 e Q q =>
  ha H1 e _ fun H2 e2 => hb H2 (e.trans e2) _ fun H3 e3 => ⟨i, j, rfl, rfl, g i j, rfl, by
    cases h : g i j with
    | true =>
      rw [h] at q
      exact hc H3 ((e.trans e2).trans e3) _ fun H4 e4 => ⟨j, k, rfl, rfl, q H4 ((e2.trans e3).trans e4)⟩
    | false =>
      rw [h] at q
      exact q H3 (e2.trans e3)⟩
theorem et_chain {g g' : Int → Int → Bool} (ha : Ev ta σ H (.int i)) (hb : Ev tb σ H (.int j)) (hc : Ev tc σ H (.int k)) : EvT (tTest (tChain (rI0 fun i j => .bl (g i j)) (rI0 fun i j => .bl (g' i j)) ta tb tc)) σ H (g i j && g' j k) :=
  et_test (ev_chain ha hb hc)
theorem ev_lt (ha : Ev ta σ H (.int i)) (hb : Ev tb σ H (.int j)) : Ev (tOp (rI0 fun i j => .bl (decide (i < j))) ta tb) σ H (.bl (decide (i < j))) := ev_op ha hb (rv_I0 (g := fun i j => .bl (decide (i < j))))
/-- x == y, x != y of scalars -/
theorem et_eq (ha : Ev ta σ H x) (hb : Ev tb σ H y) (h : scal x y = true) : EvT (tTest (tOp rEq ta tb)) σ H (decide (x = y)) := et_test (ev_op ha hb (rv_eq h))
theorem et_ne (ha : Ev ta σ H x) (hb : Ev tb σ H y) (h : scal x y = true) : EvT (tTest (tOp rNe ta tb)) σ H (!decide (x = y)) := et_test (ev_op ha hb (rv_ne h))
theorem et_I {g : Int → Int → Bool} (ha : Ev ta σ H (.int i)) (hb : Ev tb σ H (.int j)) : EvT (tTest (tOp (rI0 fun i j => .bl (g i j)) ta tb)) σ H (g i j) := et_test (ev_op ha hb (rv_I0 (g := fun i j => .bl (g i j))))
theorem ev_I {g : Int → Int → Int} (ha : Ev ta σ H (.int i)) (hb : Ev tb σ H (.int j)) : Ev (tOp (rI0 fun i j => .int (g i j)) ta tb) σ H (.int (g i j)) := ev_op ha hb (rv_I0 (g := fun i j => .int (g i j)))
theorem ev_IC {C : Int → Int → Prop} {g : Int → Int → Int} (ha : Ev ta σ H (.int i)) (hb : Ev tb σ H (.int j)) (hc : C i j) : Ev (tOp (rI C fun i j => .int (g i j)) ta tb) σ H (.int (g i j)) := ev_op ha hb (rv_I (g := fun i j => .int (g i j)) hc)
/-- len -/
theorem ev_lenB {l : Array UInt8} (ha : Ev ta σ H (.byt l)) (h : l.size ≤ 100000) : Ev (tCB (rLen K) (tCons ta tNil)) σ H (.int (l.size : Int)) := fun H1 e Q q =>
  ha H1 e _ fun H2 e2 => ⟨.byt l, l.size, rfl, ⟨sz_of h, rfl⟩, q H2 e2⟩
theorem ev_lenS {l : Str} (ha : Ev ta σ H (.str l)) (h : l.length ≤ 100000) : Ev (tCB (rLen K) (tCons ta tNil)) σ H (.int (l.length : Int)) := fun H1 e Q q =>
  ha H1 e _ fun H2 e2 => ⟨.str l, l.length, rfl, ⟨sz_of h, rfl⟩, q H2 e2⟩
theorem ev_lenL {p : Addr} {xs : List V} (ha : Ev ta σ H (.ref p)) (h : SqL K H p xs) : Ev (tCB (rLen K) (tCons ta tNil)) σ H (.int (xs.length : Int)) := fun H1 e Q q =>
  ha H1 e _ fun H2 e2 => ⟨.ref p, xs.length, rfl, Or.inl ⟨xs, ex_l (e.trans e2) h, rfl⟩, q H2 e2⟩
theorem ev_lenT {p : Addr} {xs : List V} (ha : Ev ta σ H (.ref p)) (h : SqT K H p xs) : Ev (tCB (rLen K) (tCons ta tNil)) σ H (.int (xs.length : Int)) := fun H1 e Q q =>
  ha H1 e _ fun H2 e2 => ⟨.ref p, xs.length, rfl, Or.inr ⟨xs, ex_t (e.trans e2) h, rfl⟩, q H2 e2⟩
/-- o.f -/
theorem ev_fld {a C dx : Addr} {fs : List (Str × V)} {f : Str} (ha : Ev ta σ H (.ref a)) (ho : H a = some (.ins C dx fs)) (hc : Cls K C) (hn : NoAttr K C f) (hl : fs.lookup f = some v) : Ev (tFld K ta f) σ H v := fun H1 e Q q =>
  ha H1 e _ fun H2 e2 => ⟨a, C, dx, fs, v, rfl, e2 a _ (e a _ ho), hc, hn, hl, q H2 e2⟩
theorem ev_con {a C dx : Addr} {fs : List (Str × V)} {f : Str} {u : Value} (ha : Ev ta σ H (.ref a)) (ho : H a = some (.ins C dx fs)) (hc : Cls K C) (hn : Con K C f v u) (hl : fs.lookup f = none) : Ev (tCon K ta f) σ H v := fun H1 e Q q =>
  ha H1 e _ fun H2 e2 => ⟨a, C, dx, fs, v, u, rfl, e2 a _ (e a _ ho), hc, hn, hl, q H2 e2⟩
/-- all, any of a list of truths that was just made -/
theorem ev_allL {bs : List Bool} (ha : EvL ta σ H (bs.map V.bl)) : Ev (tCB (rAll K) (tCons ta tNil)) σ H (.bl (bs.all id)) := fun H1 e Q q =>
  ha H1 e _ fun p H2 _ e2 hp => ⟨p, bs, rfl, sq_of hp, q H2 e2⟩
theorem ev_anyL {bs : List Bool} (ha : EvL ta σ H (bs.map V.bl)) : Ev (tCB (rAny K) (tCons ta tNil)) σ H (.bl (bs.any id)) := fun H1 e Q q =>
  ha H1 e _ fun p H2 _ e2 hp => ⟨p, bs, rfl, sq_of hp, q H2 e2⟩
/-! ### what is walked -/
/-- the walked thing: J by n turns of Y while G holds -/
def EvI (wi : TI) (σ : L2.St) (H : Hp) (n : Nat) (Y : Nat → Hp → V → Hp → Prop) : Prop := ∀ H1, Ex H H1 → ∀ R : It → Hp → Prop, (∀ J (G : Hp → Prop) H2, Ex H1 H2 → Walk J n G Y → G H2 → (∀ D H3 H4, H2 D = none → G H3 → Ex H2 H4 → G H4) → R J H2) → wi σ H1 R
theorem ei_list {p : Addr} {xs : List V} {tl : TE} (h : Ev tl σ H (.ref p)) (hx : SqL K H p xs) : EvI (iList K tl) σ H xs.length (YAt xs) := fun H1 e R k =>
  h H1 e _ fun H2 e2 => ⟨p, rfl, ⟨xs, ex_l (e.trans e2) hx⟩, k _ _ H2 e2 walk_list (ex_l (e.trans e2) hx) fun _ _ H4 _ _ e4 => ex_l ((e.trans e2).trans e4) hx⟩
theorem ei_listN {xs : List V} {tl : TE} (h : EvL tl σ H xs) : EvI (iList K tl) σ H xs.length (YAt xs) := fun H1 e R k =>
  h H1 e _ fun p H2 _ e2 hp => ⟨p, rfl, ⟨xs, sq_of hp⟩, k _ _ H2 e2 walk_list (sq_of hp) fun _ _ H4 _ _ e4 => ex_l e4 (sq_of hp)⟩
theorem ei_tup {p : Addr} {xs : List V} {tl : TE} (h : Ev tl σ H (.ref p)) (hx : SqT K H p xs) : EvI (iTup K tl) σ H xs.length (YAt xs) := fun H1 e R k =>
  h H1 e _ fun H2 e2 => ⟨p, rfl, ⟨xs, ex_t (e.trans e2) hx⟩, k _ _ H2 e2 walk_tup (ex_t (e.trans e2) hx) fun _ _ H4 _ _ e4 => ex_t ((e.trans e2).trans e4) hx⟩
theorem ei_str {s : Str} (h : Ev te σ H (.str s)) : EvI (iStr te) σ H s.cps.size (fun i H v H' => H' = H ∧ ∃ c, s.cps[i]? = some c ∧ v = .str ⟨#[c]⟩) := fun H1 e R k =>
  h H1 e _ fun H2 e2 => ⟨s, rfl, k _ (fun _ => True) H2 e2 walk_str trivial fun _ _ _ _ _ _ => trivial⟩
theorem walk_byt {l : Array UInt8} : Walk (Itb l) l.size (fun _ => True) (YFn fun i => .int (((l.getD i 0).toNat : Nat) : Int)) :=
  ⟨fun _ _ hi _ => hi, fun _ _ => Nat.le_refl _, fun i _ _ _ hi _ y => ⟨y.1, by
    obtain ⟨_, c, h1, h2⟩ := y
    have e : l.getD i 0 = c := by
      rw [Array.getD_eq_getD_getElem?, h1]
      rfl
    show _ = V.int (((l.getD i 0).toNat : Nat) : Int)
    rw [h2, e]⟩⟩
theorem ei_byt {l : Array UInt8} (h : Ev te σ H (.byt l)) : EvI (iByt te) σ H l.size (YFn fun i => .int (((l.getD i 0).toNat : Nat) : Int)) := fun H1 e R k =>
  h H1 e _ fun H2 e2 => ⟨l, rfl, k _ (fun _ => True) H2 e2 walk_byt trivial fun _ _ _ _ _ _ => trivial⟩
theorem ei_rng2 {tl : TA} {lo hi : Int} (h : EvA tl σ H [.int lo, .int hi]) (hn : -100000 ≤ lo ∧ lo ≤ 100000 ∧ -100000 ≤ hi ∧ hi ≤ 100000) : EvI (iRng2 tl) σ H (hi - lo).toNat (YFn fun i => .int (lo + i)) := fun H1 e R k =>
  h H1 e _ fun H2 e2 => ⟨lo, hi, rfl, ⟨by omega, by omega, by omega, by omega⟩, k _ (fun _ => True) H2 e2 walk_range trivial fun _ _ _ _ _ _ => trivial⟩
theorem ei_rng1 {tl : TA} {hi : Int} (h : EvA tl σ H [.int hi]) (hn : -100000 ≤ hi ∧ hi ≤ 100000) : EvI (iRng1 tl) σ H hi.toNat (YFn fun i => .int (0 + i)) := fun H1 e R k =>
  h H1 e _ fun H2 e2 => ⟨hi, rfl, by omega, by omega, k _ (fun _ => True) H2 e2 walk_range trivial fun _ _ _ _ _ _ => trivial⟩
theorem ei_enum {tl : TA} {p : Addr} {xs : List V} (h : EvA tl σ H [.ref p]) (hx : SqL K H p xs) : EvI (iEnum K tl) σ H xs.length (YPair (fun i => some (.int (i : Nat))) (fun i => xs[i]?)) := fun H1 e R k =>
  h H1 e _ fun H2 e2 => ⟨p, xs, rfl, ex_l (e.trans e2) hx, k _ _ H2 e2 walk_enum (ex_l (e.trans e2) hx) fun _ _ H4 _ _ e4 => ex_l ((e.trans e2).trans e4) hx⟩
/-! ### comprehensions without an if -/
/-- what a comprehension's turn gives: the target is set (σ2 the slots behind), then the element -/
def Turn1 (g : TG) (te : TE) (vs : List Nat) (σ : L2.St) (x : V) (H : Hp) (P : V → Hp → Prop) : Prop :=
  ∃ σ2 : L2.St, (∀ Kk : L2.St → Hp → Prop, (∀ H3, Ex H H3 → Kk σ2 H3) → g x (wipe σ vs) H Kk) ∧ wipe σ2 vs = wipe σ vs ∧ EvP te σ2 H P
/-- a new list, of which Pl holds -/
def EvN (te : TE) (σ : L2.St) (H : Hp) (Pl : List V → Hp → Prop) : Prop := ∀ H1, Ex H H1 → ∀ Q : VK, (∀ p ys H2, H1 p = none → Ex H1 H2 → H2 p = some (.lst ys) → Pl ys H2 → Q (.ref p) H2) → te σ H1 Q
theorem EvN.toL {xs : List V} (h : EvN te σ H (fun ys _ => ys = xs)) : EvL te σ H xs := fun H1 e Q q => h H1 e Q fun p ys H2 hp e2 h2 ey => by
  subst ey
  exact q p H2 hp e2 h2
theorem el_n {xs : List V} (h : EvL te σ H xs) : EvN te σ H (fun ys _ => ys = xs) := fun H1 e Q q => h H1 e Q fun p H2 hp e2 h2 => q p xs H2 hp e2 h2 rfl
theorem EvN.imp {Pl Pl' : List V → Hp → Prop} (h : EvN te σ H Pl) (k : ∀ ys H1, Ex H H1 → Pl ys H1 → Pl' ys H1) : EvN te σ H Pl' := fun H1 e Q q => h H1 e Q fun p ys H2 hp e2 h2 p2 => q p ys H2 hp e2 h2 (k ys H2 (e.trans e2) p2)
theorem EvN.p {Pl : List V → Hp → Prop} (h : EvN te σ H Pl) : EvP te σ H (fun v H' => ∃ p ys, v = .ref p ∧ H p = none ∧ H' p = some (.lst ys) ∧ Pl ys H') := fun H1 e Q q => h H1 e Q fun p ys H2 hp e2 h2 p2 => q _ H2 e2 ⟨p, ys, rfl, fresh_back e hp, h2, p2⟩
/-- item by item -/
def Itm (n : Nat) (P : Nat → V → Hp → Prop) : List V → Hp → Prop := fun ys H => ys.length = n ∧ ∀ i y, ys[i]? = some y → P i y H
theorem ep_lc {wi : TI} {g : TG} {vs : List Nat} {n : Nat} {Y : Nat → Hp → V → Hp → Prop} (P : Nat → V → Hp → Prop) (hst : ∀ i, St1 (P i)) (hi : EvI wi σ H n Y) (hn : n ≤ 50000) (hy : ∀ i H1 x H2, Y i H1 x H2 → Ex H1 H2)
    (turn : ∀ i x H1 H2, i < n → Ex H H1 → Y i H1 x H2 → Turn1 g te vs σ x H2 (P i)) : EvN (tLc wi g tYes te vs) σ H (Itm n P) := fun H0 e0 Q q =>
  hi H0 e0 _ fun J G H1 e1 w hG stay D hD => by
    refine lc_it w (fun i H' => Ex H1 H' ∧ ∃ ys, H' D = some (.lst ys) ∧ ys.length = i ∧ ∀ j y, ys[j]? = some y → P j y H') ⟨Ex.new hD, [], upd_same, rfl, fun j y h => by simp at h⟩
      (fun i H' _ p => stay D H1 H' hD hG p.1) ?_ ?_
    · rintro i x H2 H3 hlt ⟨e2, ys, hD2, hl, hp⟩ y
      have e3 : Ex H2 H3 := hy i H2 x H3 y
      obtain ⟨σ2, h1, h2, h3⟩ := turn i x H2 H3 hlt ((e0.trans e1).trans e2) y
      refine h1 _ fun H4 e4 => ⟨h2, ?_⟩
      show te σ2 H4 _
      refine h3 H4 e4 _ fun z H5 e5 pz => ?_
      have hD5 : H5 D = some (.lst ys) := e5 D _ (e4 D _ (e3 D _ hD2))
      refine ⟨ys, hD5, sz_lt (by omega), ?_, ys ++ [z], upd_same, by rw [List.length_append, hl]; rfl, fun j y' hj => ?_⟩
      · exact Ex.mut (((e2.trans e3).trans e4).trans e5) hD
      · have st : ExL H5 (upd H5 D (.lst (ys ++ [z]))) := ExL.put hD5
        rcases Nat.lt_trichotomy j ys.length with h | h | h
        · rw [List.getElem?_append_left h] at hj
          exact hst j _ _ _ (((ExL.of e3).trans (ExL.of e4)).trans ((ExL.of e5).trans st)) (hp j y' hj)
        · subst h
          rw [List.getElem?_append_right (Nat.le_refl _), Nat.sub_self] at hj
          have ez : z = y' := Option.some.inj hj
          subst ez
          rw [hl]
          exact hst i _ _ _ st pz
        · rw [List.getElem?_eq_none (by rw [List.length_append, List.length_singleton]; omega)] at hj
          cases hj
    · rintro H' ⟨e2, ys, hD2, hl, hp⟩
      exact q D ys H' (fresh_back e1 hD) (e1.trans e2) hD2 ⟨hl, hp⟩
theorem itm_map {n : Nat} {f : Nat → V} {ys : List V} {H : Hp} (h : Itm n (fun i y _ => y = f i) ys H) : ys = (List.range n).map f := by
  refine List.ext_getElem? fun i => ?_
  rw [List.getElem?_map]
  by_cases hi : i < n
  · rw [List.getElem?_range hi]
    have : i < ys.length := by rw [h.1]; exact hi
    have e : ys[i]? = some ys[i] := by simp [this]
    rw [e, h.2 i _ e]
    rfl
  · rw [List.getElem?_eq_none (by rw [h.1]; omega), List.getElem?_eq_none (by simp; omega)]
    rfl
/-- .. the element a scalar of the turn's item, the target a name -/
theorem el_lc {wi : TI} {j : Nat} {vs : List Nat} {n : Nat} {Y : Nat → Hp → V → Hp → Prop} (f : Nat → V) (hi : EvI wi σ H n Y) (hn : n ≤ 50000) (hy : ∀ i H1 x H2, Y i H1 x H2 → Ex H1 H2) (hw : ∀ x, wipe ((wipe σ vs).set j (some x)) vs = wipe σ vs)
    (turn : ∀ i x H1 H2, i < n → Ex H H1 → Y i H1 x H2 → Ev te ((wipe σ vs).set j (some x)) H2 (f i)) : EvL (tLc wi (gName j) tYes te vs) σ H ((List.range n).map f) :=
  EvN.toL ((ep_lc (fun i y _ => y = f i) (fun i => st1_eq (f i)) hi hn hy fun i x H1 H2 h1 h2 h3 => ⟨_, fun Kk hk => hk H2 (Ex.refl H2), hw x, ev_p (turn i x H1 H2 h1 h2 h3)⟩).imp fun ys H1 _ h => itm_map h)
theorem ex_at {xs : List V} (i : Nat) (H1 : Hp) (x : V) (H2 : Hp) (h : YAt xs i H1 x H2) : Ex H1 H2 := by
  rw [h.1]
  exact Ex.refl _
theorem ex_fn {f : Nat → V} (i : Nat) (H1 : Hp) (x : V) (H2 : Hp) (h : YFn f i H1 x H2) : Ex H1 H2 := by
  rw [h.1]
  exact Ex.refl _
theorem ex_str {s : Str} (i : Nat) (H1 : Hp) (x : V) (H2 : Hp) (h : H2 = H1 ∧ ∃ c, s.cps[i]? = some c ∧ x = .str ⟨#[c]⟩) : Ex H1 H2 := by
  rw [h.1]
  exact Ex.refl _
theorem ex_pair {xs ys : Nat → Option V} (i : Nat) (H1 : Hp) (x : V) (H2 : Hp) (h : YPair xs ys i H1 x H2) : Ex H1 H2 := by
  obtain ⟨T, a, b, _, h2, h3, _⟩ := h
  rw [h3]
  exact Ex.new h2
theorem map_range {α : Type} {xs : List α} {g : α → V} {f : Nat → V} (h : ∀ i x, xs[i]? = some x → f i = g x) : (List.range xs.length).map f = xs.map g := by
  refine List.ext_getElem? fun i => ?_
  rw [List.getElem?_map, List.getElem?_map]
  by_cases hi : i < xs.length
  · rw [List.getElem?_range hi]
    have e : xs[i]? = some xs[i] := by simp [hi]
    rw [e]
    exact congrArg some (h i _ e)
  · rw [List.getElem?_eq_none (by simp; omega), List.getElem?_eq_none (by omega)]
    rfl
/-- over a list's (tuple's) items, the element a scalar function of the item -/
theorem el_map {wi : TI} {j : Nat} {vs : List Nat} {xs : List V} (g : V → V) (hi : EvI wi σ H xs.length (YAt xs)) (hn : xs.length ≤ 50000) (hw : ∀ x, wipe ((wipe σ vs).set j (some x)) vs = wipe σ vs)
    (turn : ∀ x H1, x ∈ xs → Ex H H1 → Ev te ((wipe σ vs).set j (some x)) H1 (g x)) : EvL (tLc wi (gName j) tYes te vs) σ H (xs.map g) := by
  have h := el_lc (te := te) (fun i => g (xs.getD i .non)) hi hn ex_at hw fun i x H1 H2 h1 h2 h3 => by
    obtain ⟨rfl, hx⟩ := h3
    have e : xs.getD i .non = x := by rw [List.getD_eq_getElem?_getD, hx]; rfl
    rw [e]
    exact turn x H2 (List.mem_of_getElem? hx) h2
  rw [map_range (g := g) (xs := xs) fun i x hx => by rw [List.getD_eq_getElem?_getD, hx]; rfl] at h
  exact h
/-- all([t for x in ..]), any -/
theorem ev_allI {wi : TI} {j : Nat} {vs : List Nat} {n : Nat} {Y : Nat → Hp → V → Hp → Prop} (f : Nat → Bool) (hi : EvI wi σ H n Y) (hn : n ≤ 50000) (hy : ∀ i H1 x H2, Y i H1 x H2 → Ex H1 H2) (hw : ∀ x, wipe ((wipe σ vs).set j (some x)) vs = wipe σ vs)
    (turn : ∀ i x H1 H2, i < n → Ex H H1 → Y i H1 x H2 → Ev te ((wipe σ vs).set j (some x)) H2 (.bl (f i))) : Ev (tCB (rAll K) (tCons (tLc wi (gName j) tYes te vs) tNil)) σ H (.bl ((List.range n).all f)) := by
  have h := el_lc (fun i => V.bl (f i)) hi hn hy hw turn
  have e : (List.range n).map (fun i => V.bl (f i)) = ((List.range n).map f).map V.bl := by rw [List.map_map]; rfl
  rw [e] at h
  have g := ev_allL (K := K) h
  rw [List.all_map] at g
  exact g
theorem ev_anyI {wi : TI} {j : Nat} {vs : List Nat} {n : Nat} {Y : Nat → Hp → V → Hp → Prop} (f : Nat → Bool) (hi : EvI wi σ H n Y) (hn : n ≤ 50000) (hy : ∀ i H1 x H2, Y i H1 x H2 → Ex H1 H2) (hw : ∀ x, wipe ((wipe σ vs).set j (some x)) vs = wipe σ vs)
    (turn : ∀ i x H1 H2, i < n → Ex H H1 → Y i H1 x H2 → Ev te ((wipe σ vs).set j (some x)) H2 (.bl (f i))) : Ev (tCB (rAny K) (tCons (tLc wi (gName j) tYes te vs) tNil)) σ H (.bl ((List.range n).any f)) := by
  have h := el_lc (fun i => V.bl (f i)) hi hn hy hw turn
  have e : (List.range n).map (fun i => V.bl (f i)) = ((List.range n).map f).map V.bl := by rw [List.map_map]; rfl
  rw [e] at h
  have g := ev_anyL (K := K) h
  rw [List.any_map] at g
  exact g
theorem ev_allX {wi : TI} {j : Nat} {vs : List Nat} {xs : List V} (hi : EvI wi σ H xs.length (YAt xs)) (hn : xs.length ≤ 50000) (hw : ∀ x, wipe ((wipe σ vs).set j (some x)) vs = wipe σ vs)
    (turn : ∀ x H1, x ∈ xs → Ex H H1 → Ev te ((wipe σ vs).set j (some x)) H1 (.bl true)) : Ev (tCB (rAll K) (tCons (tLc wi (gName j) tYes te vs) tNil)) σ H (.bl true) := by
  have h := ev_allI (K := K) (fun _ => true) hi hn ex_at hw fun i x H1 H2 h1 h2 h3 => by
    obtain ⟨rfl, hx⟩ := h3
    exact turn x H2 (List.mem_of_getElem? hx) h2
  rwa [show (List.range xs.length).all (fun _ => true) = true from List.all_eq_true.2 fun _ _ => rfl] at h
theorem ev_anyX {wi : TI} {j : Nat} {vs : List Nat} {xs : List V} (hi : EvI wi σ H xs.length (YAt xs)) (hn : xs.length ≤ 50000) (hw : ∀ x, wipe ((wipe σ vs).set j (some x)) vs = wipe σ vs)
    (turn : ∀ x H1, x ∈ xs → Ex H H1 → Ev te ((wipe σ vs).set j (some x)) H1 (.bl false)) : Ev (tCB (rAny K) (tCons (tLc wi (gName j) tYes te vs) tNil)) σ H (.bl false) := by
  have h := ev_anyI (K := K) (fun _ => false) hi hn ex_at hw fun i x H1 H2 h1 h2 h3 => by
    obtain ⟨rfl, hx⟩ := h3
    exact turn x H2 (List.mem_of_getElem? hx) h2
  rwa [show (List.range xs.length).any (fun _ => false) = false by simp] at h
theorem et_nT (h : EvT tt σ H true) : EvT (tNot tt) σ H false := et_not h
theorem et_nF (h : EvT tt σ H false) : EvT (tNot tt) σ H true := et_not h
theorem ev_nT (h : Ev te σ H (.bl true)) : Ev (tNotV te) σ H (.bl false) := ev_notV h
theorem ev_nF (h : Ev te σ H (.bl false)) : Ev (tNotV te) σ H (.bl true) := ev_notV h
theorem kit_hit {t c : Value} {cs : List Value} (h : PySem.W.kitOne K t c = some true) : PySem.W.kitAny K t (c :: cs) = some true := kitAny_cons h (fun q => nomatch q) fun _ => rfl
theorem kit_miss {t c : Value} {cs : List Value} {r : Bool} (h : PySem.W.kitOne K t c = some false) (k : PySem.W.kitAny K t cs = some r) : PySem.W.kitAny K t (c :: cs) = some r := kitAny_cons h (fun _ => k) fun q => nomatch q
/-- methods of texts, bytes, lists -/
theorem ev_m0 {r : V → List V → Hp → VK → Prop} {a : Str} (ha : Ev ta σ H (.str a)) (hr : ∀ H1, Ex H H1 → ∀ Q : VK, (∀ H2, Ex H1 H2 → Q z H2) → r (.str a) [] H1 Q) : Ev (tM0 r ta) σ H z := fun H1 e Q q =>
  ha H1 e _ fun H2 e2 => ⟨⟨a, rfl⟩, hr H2 (e.trans e2) Q fun H3 e3 => q H3 (e2.trans e3)⟩
theorem ev_m1 {r : V → List V → Hp → VK → Prop} {a : Str} (ha : Ev ta σ H (.str a)) (hb : Ev tb σ H y) (hr : ∀ H1, Ex H H1 → ∀ Q : VK, (∀ H2, Ex H1 H2 → Q z H2) → r (.str a) [y] H1 Q) : Ev (tM1 r ta tb) σ H z := fun H1 e Q q =>
  ha H1 e _ fun H2 e2 => ⟨⟨a, rfl⟩, hb H2 (e.trans e2) _ fun H3 e3 => hr H3 ((e.trans e2).trans e3) Q fun H4 e4 => q H4 ((e2.trans e3).trans e4)⟩
theorem el_m1 {r : V → List V → Hp → VK → Prop} {a : Str} {xs : List V} (ha : Ev ta σ H (.str a)) (hb : Ev tb σ H y) (hr : ∀ H1, Ex H H1 → ∀ Q : VK, (∀ p, H1 p = none → Q (.ref p) (upd H1 p (.lst xs))) → r (.str a) [y] H1 Q) : EvL (tM1 r ta tb) σ H xs := fun H1 e Q q =>
  ha H1 e _ fun H2 e2 => ⟨⟨a, rfl⟩, hb H2 (e.trans e2) _ fun H3 e3 => hr H3 ((e.trans e2).trans e3) Q fun p hp => q p _ (fresh_back (e2.trans e3) hp) ((e2.trans e3).trans (Ex.new hp)) upd_same⟩
theorem ev_bm {T : String} {r : V → List V → Hp → VK → Prop} {tl : TA} {vs : List V} (hT : ∀ H1, Ex H H1 → tyV K T x H1) (ha : Ev ta σ H x) (hb : EvA tl σ H vs) (hr : ∀ H1, Ex H H1 → ∀ Q : VK, (∀ H2, Ex H1 H2 → Q z H2) → r x vs H1 Q) : Ev (tBM K T r ta tl) σ H z := fun H1 e Q q =>
  ha H1 e _ fun H2 e2 => ⟨hT H2 (e.trans e2), hb H2 (e.trans e2) _ fun H3 e3 => hr H3 ((e.trans e2).trans e3) Q fun H4 e4 => q H4 ((e2.trans e3).trans e4)⟩
theorem ev_bm0 {T : String} {r : V → List V → Hp → VK → Prop} (hT : ∀ H1, Ex H H1 → tyV K T x H1) (ha : Ev ta σ H x) (hr : ∀ H1, Ex H H1 → ∀ Q : VK, (∀ H2, Ex H1 H2 → Q z H2) → r x [] H1 Q) : Ev (tBM0 K T r ta) σ H z := fun H1 e Q q =>
  ha H1 e _ fun H2 e2 => ⟨hT H2 (e.trans e2), hr H2 (e.trans e2) Q fun H4 e4 => q H4 (e2.trans e4)⟩
theorem rv_ixt {p : Addr} {xs : List V} {i : Int} (h : SqT K H p xs) (hi : atI xs i = some v) : RV (rIx K) (.ref p) (.int i) H v := fun H1 e Q q => Or.inr (Or.inl (rv_ixT h hi H1 e Q q))
theorem rv_ixl {p : Addr} {xs : List V} {i : Int} (h : SqL K H p xs) (hi : atI xs i = some v) : RV (rIx K) (.ref p) (.int i) H v := fun H1 e Q q => Or.inl (rv_ixL h hi H1 e Q q)
theorem EvU.p {xs : List V} (h : EvU te σ H xs) : EvP te σ H (fun v H' => ∃ p, v = .ref p ∧ H' p = some (.tup xs)) := fun H1 e Q q => h H1 e Q fun p H2 hp e2 h2 => q _ H2 e2 ⟨p, rfl, h2⟩
theorem EvL.p {xs : List V} (h : EvL te σ H xs) : EvP te σ H (fun v H' => ∃ p, v = .ref p ∧ H' p = some (.lst xs)) := fun H1 e Q q => h H1 e Q fun p H2 hp e2 h2 => q _ H2 e2 ⟨p, rfl, h2⟩
theorem eap_1n {Pl : List V → Hp → Prop} (h : EvN te σ H Pl) : EvAP (tCons te tNil) σ H (fun vs H' => ∃ q ys, vs = [.ref q] ∧ H' q = some (.lst ys) ∧ Pl ys H') := fun H1 e Q k => h H1 e _ fun p ys H2 _ e2 h2 pl => k _ H2 e2 ⟨p, ys, rfl, h2, pl⟩
theorem eap_2n {Pl : List V → Hp → Prop} (h1 : Ev ta σ H x) (h2 : EvN tb σ H Pl) : EvAP (tCons ta (tCons tb tNil)) σ H (fun vs H' => ∃ q ys, vs = [x, .ref q] ∧ H' q = some (.lst ys) ∧ Pl ys H') := fun H1 e Q k =>
  h1 H1 e _ fun H2 e2 => h2 H2 (e.trans e2) _ fun p ys H3 _ e3 h3 pl => k _ H3 (e2.trans e3) ⟨p, ys, rfl, h3, pl⟩
/-- the target (x, y) of a pair -/
theorem turn_pair {i j : Nat} {vs : List Nat} {q : Addr} {u w : V} (hq : H q = some (.tup [u, w])) (hw : wipe (((wipe σ vs).set i (some u)).set j (some w)) vs = wipe σ vs) (h : EvP te (((wipe σ vs).set i (some u)).set j (some w)) H P) :
    Turn1 (gTup K 2 (gCons (gName i) (gCons (gName j) gNil))) te vs σ (.ref q) H P :=
  ⟨_, fun Kk hk => ⟨q, [u, w], rfl, st_of hq, rfl, u, [w], rfl, w, [], rfl, rfl, hk H (Ex.refl H)⟩, hw, h⟩
/-- x.f = e -/
theorem s_fld {D : Ends} {p C dx : Addr} {fs : List (Str × V)} {f : Str} (hv : Ev tb σ H v) (ha : Ev ta σ H (.ref p)) (ho : H p = some (.ins C dx fs)) (hc : Cls K C) (hn : NoAttr K C f) (hz : fs.length < 1000) (k : ∀ H1, Ex H H1 → D.nx σ (upd H1 p (.ins C dx (putF f v fs)))) : sFld K ta tb f D σ H :=
  hv H (Ex.refl H) _ fun H1 e1 => ha H1 e1 _ fun H2 e2 => ⟨p, C, dx, fs, rfl, e2 p _ (e1 p _ ho), hc, hn, hz, k H2 (e1.trans e2)⟩
theorem q_fld {D : Ends} {tz : TS} {p C dx : Addr} {fs : List (Str × V)} {f : Str} (hv : Ev tb σ H v) (ha : Ev ta σ H (.ref p)) (ho : H p = some (.ins C dx fs)) (hc : Cls K C) (hn : NoAttr K C f) (hz : fs.length < 1000) (k : ∀ H1, Ex H H1 → tz D σ (upd H1 p (.ins C dx (putF f v fs)))) : tSeq (sFld K ta tb f) tz D σ H :=
  s_fld (D := { D with nx := tz D }) hv ha ho hc hn hz k
/-- .. a new tuple or list -/
theorem s_fldU {D : Ends} {p C dx : Addr} {fs : List (Str × V)} {xs : List V} {f : Str} (hv : EvU tb σ H xs) (ha : Ev ta σ H (.ref p)) (ho : H p = some (.ins C dx fs)) (hc : Cls K C) (hn : NoAttr K C f) (hz : fs.length < 1000)
    (k : ∀ q H1, H q = none → Ex H H1 → H1 q = some (.tup xs) → D.nx σ (upd H1 p (.ins C dx (putF f (.ref q) fs)))) : sFld K ta tb f D σ H :=
  hv H (Ex.refl H) _ fun q H1 hq e1 h1 => ha H1 e1 _ fun H2 e2 => ⟨p, C, dx, fs, rfl, e2 p _ (e1 p _ ho), hc, hn, hz, k q H2 hq (e1.trans e2) (e2 q _ h1)⟩
/-- all but the one at x stay -/
def ExB (x : Addr) (H H' : Hp) : Prop := ∀ p o, H p = some o → p ≠ x → H' p = some o
theorem ExB.refl (x : Addr) (H : Hp) : ExB x H H := fun _ _ h _ => h
theorem ExB.trans {x : Addr} {H H1 H2 : Hp} (a : ExB x H H1) (b : ExB x H1 H2) : ExB x H H2 := fun p o h n => b p o (a p o h n) n
theorem ExB.of {x : Addr} {H H' : Hp} (e : Ex H H') : ExB x H H' := fun p o h _ => e p o h
theorem ExB.put {x : Addr} {H : Hp} {o : HO} : ExB x H (upd H x o) := fun p u h n => by rw [upd_ne n]; exact h
/-- *y at an end of a display -/
theorem ea_star {q : Addr} {xs : List V} (h : Ev te σ H (.ref q)) (hq : SqT K H q xs) : EvA (StX.tStar K te tNil) σ H xs := fun H1 e Q k => h H1 e _ fun H2 e2 => ⟨q, xs, rfl, Or.inl (ex_t (e.trans e2) hq), by
  show Q (xs ++ []) H2
  rw [List.append_nil]
  exact k H2 e2⟩
/-- dicts -/
theorem s_dput {D : Ends} {d : Addr} {kvs : List (Key × V)} {k0 : Key} (hv : Ev tc σ H v) (hd : Ev ta σ H (.ref d)) (hy : Ev tb σ H (kV k0)) (ho : H d = some (.dK kvs)) (hl : kvs.length < 100000) (k : ∀ H1, Ex H H1 → D.nx σ (upd H1 d (.dK (putK kvs k0 v)))) : sDPut ta tb tc D σ H :=
  hv H (Ex.refl H) _ fun H1 e1 => hd H1 e1 _ fun H2 e2 => hy H2 (e1.trans e2) _ fun H3 e3 => ⟨d, _, rfl, DPut.k (((e1.trans e2).trans e3) d _ ho) (sz_lt hl), k H3 ((e1.trans e2).trans e3)⟩
theorem q_dput {D : Ends} {tz : TS} {d : Addr} {kvs : List (Key × V)} {k0 : Key} (hv : Ev tc σ H v) (hd : Ev ta σ H (.ref d)) (hy : Ev tb σ H (kV k0)) (ho : H d = some (.dK kvs)) (hl : kvs.length < 100000) (k : ∀ H1, Ex H H1 → tz D σ (upd H1 d (.dK (putK kvs k0 v)))) : tSeq (sDPut ta tb tc) tz D σ H :=
  s_dput (D := { D with nx := tz D }) hv hd hy ho hl k
theorem ev_dget {d : Addr} {kvs : List (Key × V)} {k0 : Key} (hd : Ev ta σ H (.ref d)) (hy : Ev tb σ H (kV k0)) (ho : H d = some (.dK kvs)) (hv : valV kvs k0 = some v) : Ev (tDGet ta tb) σ H v := fun H1 e Q q =>
  hd H1 e _ fun H2 e2 => hy H2 (e.trans e2) _ fun H3 e3 => ⟨d, v, rfl, hv ▸ DGet.k (((e.trans e2).trans e3) d _ ho), q H3 (e2.trans e3)⟩
theorem ev_din {d : Addr} {kvs : List (Key × V)} {k0 : Key} (hy : Ev tb σ H (kV k0)) (hd : Ev ta σ H (.ref d)) (ho : H d = some (.dK kvs)) : Ev (tDIn tb ta) σ H (.bl (valV kvs k0).isSome) := fun H1 e Q q =>
  hy H1 e _ fun H2 e2 => hd H2 (e.trans e2) _ fun H3 e3 => ⟨d, _, rfl, DGet.k (((e.trans e2).trans e3) d _ ho), q H3 (e2.trans e3)⟩
theorem ev_lenD {d : Addr} {kvs : List (Key × V)} (hd : Ev ta σ H (.ref d)) (ho : H d = some (.dK kvs)) : Ev (tCB (fun xs H Q => ∃ a kvs, xs = [V.ref a] ∧ H a = some (.dK kvs) ∧ Q (.int kvs.length) H) (tCons ta tNil)) σ H (.int (kvs.length : Int)) := fun H1 e Q q =>
  hd H1 e _ fun H2 e2 => ⟨d, kvs, rfl, e2 d _ (e d _ ho), q H2 e2⟩
/-- l.append(e), a = e, of what is told of the value -/
theorem s_appP {D : Ends} {l : Addr} {xs : List V} (hl : H l = some (.lst xs)) (ha : Ev ta σ H (.ref l)) (h : EvP te σ H P) (hz : xs.length < 100000) (k : ∀ x H1, Ex H H1 → P x H1 → D.nx σ (upd H1 l (.lst (xs ++ [x])))) : tDrop (tBM K "list" rAppend ta (tCons te tNil)) D σ H := ha H (Ex.refl H) _ fun H1 e1 =>
  ⟨Or.inl ⟨rfl, xs, sq_of (e1 l _ hl)⟩, h H1 e1 _ fun x H2 e2 p => by
    refine ⟨l, xs, x, rfl, rfl, (e1.trans e2) l _ hl, ?_, ?_⟩
    all_goals first | exact sz_lt hz | exact k x H2 (e1.trans e2) p⟩
theorem s_asgP {D : Ends} {i : Nat} (h : EvP te σ H P) (k : ∀ x H1, Ex H H1 → P x H1 → D.nx (σ.set i (some x)) H1) : tAsg te (gName i) D σ H := h H (Ex.refl H) _ fun x H1 e p => k x H1 e p
theorem q_asgP {D : Ends} {tz : TS} {i : Nat} (h : EvP te σ H P) (k : ∀ x H1, Ex H H1 → P x H1 → tz D (σ.set i (some x)) H1) : tSeq (tAsg te (gName i)) tz D σ H := s_asgP (D := { D with nx := tz D }) h k
theorem s_retP {D : Ends} (h : EvP te σ H P) (k : ∀ x H1, Ex H H1 → P x H1 → D.rt x H1) : tRet te D σ H := h H (Ex.refl H) _ k
theorem ep_tup {tl : TA} {Pa : List V → Hp → Prop} (h : EvAP tl σ H Pa) (hz : ∀ vs H1, Pa vs H1 → vs.length ≤ 100000) (hm : ∀ vs H1 H2, Ex H1 H2 → Pa vs H1 → Pa vs H2) : EvP (tTup tl) σ H (fun v H' => ∃ p vs, v = .ref p ∧ H' p = some (.tup vs) ∧ Pa vs H') := fun H1 e Q q =>
  h H1 e _ fun vs H2 e2 p => ⟨sz_of (hz vs H2 p), fun r hr => q _ _ (e2.trans (Ex.new hr)) ⟨r, vs, rfl, upd_same, hm vs H2 _ (Ex.new hr) p⟩⟩
theorem eap_nil {Pa : List V → Hp → Prop} (h : ∀ H1, Ex H H1 → Pa [] H1) : EvAP tNil σ H Pa := fun H1 e Q q => q [] H1 (Ex.refl H1) (h H1 e)
theorem ep_if {b : Bool} (h : EvT tt σ H b) (h1 : b = true → EvP ta σ H P) (h2 : b = false → EvP tb σ H P) : EvP (tIf tt ta tb) σ H P := fun H1 e Q q => h H1 e _ fun H2 e2 => by
  cases b with
  | true => exact h1 rfl H2 (e.trans e2) Q fun v H3 e3 p => q v H3 (e2.trans e3) p
  | false => exact h2 rfl H2 (e.trans e2) Q fun v H3 e3 p => q v H3 (e2.trans e3) p
theorem hu_of {k : Nat} {A : Around} (r : Room k A) : A.units + 1 < cLine := by
  have := r.un
  omega
/-- x.f = e, of what is told of the value -/
theorem s_fldP {D : Ends} {p C dx : Addr} {fs : List (Str × V)} {f : Str} (hv : EvP tb σ H P) (ha : Ev ta σ H (.ref p)) (ho : H p = some (.ins C dx fs)) (hc : Cls K C) (hn : NoAttr K C f) (hz : fs.length < 1000)
    (k : ∀ y H1, Ex H H1 → (∃ H0, Ex H H0 ∧ Ex H0 H1 ∧ P y H0) → D.nx σ (upd H1 p (.ins C dx (putF f y fs)))) : sFld K ta tb f D σ H :=
  hv H (Ex.refl H) _ fun y H1 e1 py => ha H1 e1 _ fun H2 e2 => ⟨p, C, dx, fs, rfl, e2 p _ (e1 p _ ho), hc, hn, hz, k y H2 (e1.trans e2) ⟨H1, e1, e2, py⟩⟩
theorem q_fldP {D : Ends} {tz : TS} {p C dx : Addr} {fs : List (Str × V)} {f : Str} (hv : EvP tb σ H P) (ha : Ev ta σ H (.ref p)) (ho : H p = some (.ins C dx fs)) (hc : Cls K C) (hn : NoAttr K C f) (hz : fs.length < 1000)
    (k : ∀ y H1, Ex H H1 → (∃ H0, Ex H H0 ∧ Ex H0 H1 ∧ P y H0) → tz D σ (upd H1 p (.ins C dx (putF f y fs)))) : tSeq (sFld K ta tb f) tz D σ H := s_fldP (D := { D with nx := tz D }) hv ha ho hc hn hz k
theorem ep_newD : EvP tDNewK σ H (fun v H' => ∃ p, v = .ref p ∧ H p = none ∧ H' p = some (.dK [])) := fun H1 e Q q p hp => q _ _ (Ex.new hp) ⟨p, rfl, fresh_back e hp, upd_same⟩
theorem ep_newL : EvP (tLst tNil) σ H (fun v H' => ∃ p, v = .ref p ∧ H p = none ∧ H' p = some (.lst [])) := fun H1 e Q q => ⟨Nat.zero_le _, fun p hp => q _ _ (Ex.new hp) ⟨p, rfl, fresh_back e hp, upd_same⟩⟩
theorem q_par {D : Ends} {tz : TS} {i j : Nat} {Pa : V → Hp → Prop} {Pb : V → Hp → V → Hp → Prop} (h1 : EvP ta σ H Pa) (h2 : ∀ x H1, Ex H H1 → Pa x H1 → EvP tb σ H1 (Pb x H1)) (k : ∀ x y H1 H2, Ex H H1 → Ex H1 H2 → Pa x H1 → Pb x H1 y H2 → tz D ((σ.set i (some x)).set j (some y)) H2) : tSeq (tPar i j (tCons ta (tCons tb tNil))) tz D σ H :=
  h1 H (Ex.refl H) _ fun x H1 e1 p1 => h2 x H1 e1 p1 H1 (Ex.refl H1) _ fun y H2 e2 p2 => ⟨x, y, rfl, k x y H1 H2 e1 e2 p1 p2⟩
theorem all_getD {xs : List V} {g : V → Bool} : (List.range xs.length).all (fun i => g (xs.getD i .non)) = xs.all g := by
  have h := map_range (f := fun i => V.bl (g (xs.getD i .non))) (g := fun x => V.bl (g x)) (xs := xs) fun i x hx => by rw [List.getD_eq_getElem?_getD, hx]; rfl
  have e : ∀ (l : List Nat) (f : Nat → Bool), l.all f = (l.map fun i => V.bl (f i)).all fun v => decide (v = .bl true) := fun l f => by
    rw [List.all_map]
    congr 1
    funext i
    show f i = decide (V.bl (f i) = .bl true)
    cases f i <;> rfl
  have e2 : ∀ (l : List V) (f : V → Bool), l.all f = (l.map fun i => V.bl (f i)).all fun v => decide (v = .bl true) := fun l f => by
    rw [List.all_map]
    congr 1
    funext i
    show f i = decide (V.bl (f i) = .bl true)
    cases f i <;> rfl
  exact (e _ _).trans ((congrArg (fun l : List V => l.all fun v => decide (v = .bl true)) h).trans (e2 _ _).symm)
theorem ev_allG {wi : TI} {j : Nat} {vs : List Nat} {xs : List V} (g : V → Bool) (hi : EvI wi σ H xs.length (YAt xs)) (hn : xs.length ≤ 50000) (hw : ∀ x, wipe ((wipe σ vs).set j (some x)) vs = wipe σ vs)
    (turn : ∀ x H1, x ∈ xs → Ex H H1 → Ev te ((wipe σ vs).set j (some x)) H1 (.bl (g x))) : Ev (tCB (rAll K) (tCons (tLc wi (gName j) tYes te vs) tNil)) σ H (.bl (xs.all g)) := by
  have h := ev_allI (K := K) (fun i => g (xs.getD i .non)) hi hn ex_at hw fun i x H1 H2 h1 h2 h3 => by
    obtain ⟨rfl, hx⟩ := h3
    have e : xs.getD i .non = x := by rw [List.getD_eq_getElem?_getD, hx]; rfl
    rw [e]
    exact turn x H2 (List.mem_of_getElem? hx) h2
  rwa [all_getD] at h
/-- o.m(..) that is told of its result -/
theorem s_dropMt {D : Ends} {tl : TA} {C : Addr} {m : Str} {sp : Sp} {E : XK} {p dx : Addr} {fs : List (Str × V)} {vs : List V} (ha : Ev ta σ H (.ref p)) (ho : H p = some (.ins C dx fs)) (hl : fs.lookup m = none) (hv : EvA tl σ H vs) (hs : ∀ H1, Ex H H1 → sp (.ref p :: vs) H1 (fun v H2 => D.nx σ H2) E) : tDrop (tMeth C m sp [] E ta tl) D σ H :=
  ha H (Ex.refl H) _ fun H2 e2 => ⟨p, dx, fs, rfl, e2 p _ ho, hl, hv H2 e2 _ fun H3 e3 => by
    rw [List.append_nil]
    exact hs H3 (e2.trans e3)⟩
theorem q_dropMt {D : Ends} {tz : TS} {tl : TA} {C : Addr} {m : Str} {sp : Sp} {E : XK} {p dx : Addr} {fs : List (Str × V)} {vs : List V} (ha : Ev ta σ H (.ref p)) (ho : H p = some (.ins C dx fs)) (hl : fs.lookup m = none) (hv : EvA tl σ H vs) (hs : ∀ H1, Ex H H1 → sp (.ref p :: vs) H1 (fun v H2 => tz D σ H2) E) : tSeq (tDrop (tMeth C m sp [] E ta tl)) tz D σ H :=
  s_dropMt (D := { D with nx := tz D }) ha ho hl hv hs
theorem s_dropC {D : Ends} {tl : TA} {sp : Sp} {E : XK} {vs : List V} (hv : EvA tl σ H vs) (hs : ∀ H1, Ex H H1 → sp vs H1 (fun v H2 => D.nx σ H2) E) : tDrop (tCall sp [] E tl) D σ H :=
  hv H (Ex.refl H) _ fun H3 e3 => by
    rw [List.append_nil]
    exact hs H3 e3
theorem q_dropC {D : Ends} {tz : TS} {tl : TA} {sp : Sp} {E : XK} {vs : List V} (hv : EvA tl σ H vs) (hs : ∀ H1, Ex H H1 → sp vs H1 (fun v H2 => tz D σ H2) E) : tSeq (tDrop (tCall sp [] E tl)) tz D σ H := s_dropC (D := { D with nx := tz D }) hv hs
theorem s_dropMtP {D : Ends} {tl : TA} {C : Addr} {m : Str} {sp : Sp} {E : XK} {p dx : Addr} {fs : List (Str × V)} {Pa : List V → Hp → Prop} (ha : Ev ta σ H (.ref p)) (ho : H p = some (.ins C dx fs)) (hl : fs.lookup m = none) (hv : EvAP tl σ H Pa) (hs : ∀ vs H1, Ex H H1 → Pa vs H1 → sp (.ref p :: vs) H1 (fun v H2 => D.nx σ H2) E) : tDrop (tMeth C m sp [] E ta tl) D σ H :=
  ha H (Ex.refl H) _ fun H2 e2 => ⟨p, dx, fs, rfl, e2 p _ ho, hl, hv H2 e2 _ fun vs H3 e3 pv => by
    rw [List.append_nil]
    exact hs vs H3 (e2.trans e3) pv⟩
end
end Tl
end

section
set_option Elab.async false
set_option linter.all false
set_option maxRecDepth 100000
set_option maxHeartbeats 4000000
/-! super().__init__(..) in a plain class's __init__. -/
namespace Tl
open PySem PySem.Spec PyProof.Rows L2 Evl
open C8 (Cal Met Mak)
theorem mem_lookup : ∀ {l : List (Str × Value)} {x : Str} {u : Value}, (l.map (·.1)).Nodup → (x, u) ∈ l → l.lookup x = some u
  | (y, w) :: l, x, u, nd, h => by
    rw [List.map_cons, List.nodup_cons] at nd
    rcases List.mem_cons.mp h with e | h
    · cases e
      rw [List.lookup_cons_self]
    · have ne : ¬ x = y := fun q => nd.1 (q ▸ List.mem_map_of_mem (f := (·.1)) h)
      rw [List.lookup_cons, show (x == y) = false by simpa using ne]
      exact mem_lookup nd.2 h
theorem fst_zip : ∀ (ps : List Str) (us : List Value), ((ps.zip us).map (·.1)).Sublist ps
  | [], us => by simp
  | p :: ps, [] => by simp
  | p :: ps, u :: us => by
    rw [List.zip_cons_cons, List.map_cons]
    exact (fst_zip ps us).cons_cons p
theorem rev_lookup {ps : List Str} {us : List Value} {i : Nat} {x : Str} {u : Value} (nd : ps.Nodup) (h1 : ps[i]? = some x) (h2 : us[i]? = some u) : (ps.zip us).reverse.lookup x = some u := by
  have hm : (x, u) ∈ ps.zip us := List.mem_of_getElem? (i := i) (by rw [List.getElem?_zip_eq_some]; exact ⟨h1, h2⟩)
  have sub : ((ps.zip us).map (·.1)).Nodup := nd.sublist (fst_zip ps us)
  refine mem_lookup ?_ (List.mem_reverse.mpr hm)
  rw [List.map_reverse]
  exact List.pairwise_reverse.mpr (sub.imp fun h => Ne.symm h)
structure FnScopeS (N P : List Str) (sc : Scope) : Prop where
  kind : sc.kind = .function
  co : sc.isCoroutine = false
  gen : sc.isGenerator = false
  nd : N.Nodup
  pre : N.take P.length = P
  par : ∀ x ∈ P, sc.names.lookup x = some .local
  nocell : ∀ y ∈ sc.names, y.2 ≠ .cell
  free : ∀ y ∈ sc.names, y.2 = .free → y.1 = "__class__"
def scSC (N P : List Str) (sc : Scope) : Bool :=
  decide (sc.kind = .function) && !sc.isCoroutine && !sc.isGenerator && decide N.Nodup && decide (N.take P.length = P) && P.all (fun x => decide (sc.names.lookup x = some .local)) && sc.names.all (fun y => !decide (y.2 = .cell)) && sc.names.all (fun y => !decide (y.2 = .free) || decide (y.1 = "__class__"))
theorem fnScopeS_by {N P : List Str} {sc : Scope} (h : scSC N P sc = true) : FnScopeS N P sc := by
  simp only [scSC, Bool.and_eq_true, decide_eq_true_eq, Bool.not_eq_true', List.all_eq_true, Bool.or_eq_true, decide_eq_false_iff_not] at h
  obtain ⟨⟨⟨⟨⟨⟨⟨h1, h2⟩, h3⟩, h4⟩, h5⟩, h6⟩, h7⟩, h8⟩ := h
  exact ⟨h1, h2, h3, h4, h5, h6, h7, fun y hy e => (h8 y hy).elim (fun n => absurd e n) id⟩
def cxS (CX : CXT) (P : Program) (w : World) (K : PySem.W.Frag) (mg : Str → Option Value) (base : Heap) (N : List Str) (qual : Str) (scope : Scope) (f : Addr) (cd : Value) (cc : Addr) (A : Around) (outer : List Env) (s : Shared) (H : Hp) (E : XK) : Cx where
  prog := P
  w := w
  K := K
  mg := mg
  base := base
  A := A.deeper (PySem.W.ksEnv qual scope s.heap.objs.size f cd cc)
  N := N
  s_0 := s
  H_0 := H
  env := PySem.W.ksEnv qual scope s.heap.objs.size f cd cc
  outer := outer
  stack := PySem.W.ksEnv qual scope s.heap.objs.size f cd cc :: outer
  ex := []
  calm := true
  fn := fun x => !decide (x = "__class__")
  pn := []
  xe := fun e s' => wpAny (model P w) (A.deeper (PySem.W.ksEnv qual scope s.heap.objs.size f cd cc)) (leaving (PySem.W.ksEnv qual scope s.heap.objs.size f cd cc) e) (fun _ s'' => CX outer H s E e s'') (fun e' s'' => CX outer H s E e' s'') s'
section
variable {CX : CXT} {P : Program} {w : World} {K : PySem.W.Frag} {mg : Str → Option Value} {base : Heap} {k : Nat} {f cc D f2 : Addr} {name qual : Str} {params : Arguments} {body : List Stmt} {scope : Scope} {dV kV doc pm cdv ct oc cl : Value} {an od cld : Option Addr}
  {osl csl : Array (Option Value)} {N ps : List Str} {sp : Sp}
theorem inv_startS {A : Around} {outer : List Env} {s : Shared} {H : Hp} {E : XK} {us : List Value} {vs : List V} {h1 : Heap} {tk : Nat} (S : FnScopeS N ps scope) (hd : A.handled = none) (e0 : Env0 P w K mg base A outer s H) (hl : vs.length = ps.length) (r : Vals vs us)
    (hcc : K.lookup cc = some ⟨cl, cld, .cell (some (.ref D)), csl⟩) (hns : h1.Ns s.heap.objs.size (fun x => (ps.zip us).reverse.lookup x)) (hk : ∀ b o, s.heap.get? b = some o → h1.get? b = some o) :
    Inv (cxS CX P w K mg base N qual scope f cdv cc A outer s H E) [] (start N vs) H { s with heap := h1, toks := tk } := by
  have hpl : ps.length ≤ N.length := by have := congrArg List.length S.pre; rw [List.length_take] at this; omega
  have noA : ∀ b : Addr, b ∉ (cxS CX P w K mg base N qual scope f cdv cc A outer s H E).ex := fun b z => absurd (show b ∈ ([] : List Addr) from z) (by simp)
  have onlyC : ∀ x c, (cxS CX P w K mg base N qual scope f cdv cc A outer s H E).env.cells.lookup x = some c → x = "__class__" ∧ c = cc := fun x c h => by
    have h : ([("__class__", cc)] : List (Str × Addr)).lookup x = some c := h
    rw [List.lookup_cons] at h
    cases q : (x == ("__class__" : Str)) with
    | true =>
      rw [q] at h
      exact ⟨by simpa using q, (Option.some.inj h).symm⟩
    | false =>
      rw [q] at h
      cases h
  have hb : base.get? cc = some ⟨cl, cld, .cell (some (.ref D)), csl⟩ := e0.mod.kin _ _ hcc
  refine ⟨⟨e0.mod, S.kind, rfl, rfl, Nat.le_refl _, fun y z c h1 h2 => ((onlyC y c h1).1).trans ((onlyC z c h2).1).symm, fun y hy => ?_, fun y c hf h => ?_, fun _ => hd, Around.frames_deeper e0.frames, .inr ⟨rfl, rfl⟩, fun b z => absurd z (noA b), e0.bs, e0.bsz, fun b _ _ => noA b, fun b z => absurd z (noA b), e0.funs, e0.frf⟩,
    rfl, e0.bare, Un.kept hk, ⟨_, hns, fun i y v h1 h2 h3 => ?_⟩, fun y c h => ⟨some (.ref D), ?_⟩, e0.hok.fresh (Nat.le_refl _), fun y c h => ?_, fun p hp => absurd (show p ∈ ([] : List (Addr × Obj)) from hp) (by simp), e0.hok.kept hk, ?_⟩
  · have hy : scope.names.lookup y = some .cell ∨ scope.names.lookup y = some .free := hy
    rcases hy with hy | hy
    · exact absurd rfl (S.nocell _ (PySem.mem_of_lookup hy))
    · have := S.free _ (PySem.mem_of_lookup hy) rfl
      exact ⟨cc, by rw [show y = "__class__" from this]; rfl⟩
  · have hf : (!decide (y = "__class__")) = true := hf
    rw [(onlyC y c h).1] at hf
    exact absurd hf (by decide)
  · have hi : i < vs.length := by
      unfold L2.start at h2
      by_cases hi : i < vs.length
      · exact hi
      · rw [List.getElem?_append_right (by simpa using hi)] at h2
        rw [List.getElem?_replicate] at h2
        split at h2 <;> cases h2
    have ha : vs[i]? = some v := by
      unfold L2.start at h2
      rw [List.getElem?_append_left (by simpa using hi), List.getElem?_map] at h2
      cases e : vs[i]? with
      | none => rw [e] at h2; cases h2
      | some a => rw [e] at h2; cases h2; rfl
    obtain ⟨u, hu, rv⟩ := r.get ha
    have hp : ps[i]? = some y := by
      rw [← S.pre, List.getElem?_take_of_lt (by omega)]; exact h1
    have ndP : ps.Nodup := by rw [← S.pre]; exact S.nd.sublist (List.take_sublist _ _)
    exact ⟨u, rv, .inl ⟨S.par y (List.mem_of_getElem? hp), rev_lookup ndP hp hu⟩⟩
  · rw [(onlyC y c h).2]
    exact ⟨_, hk _ _ (e0.bs _ _ hb).1, rfl⟩
  · rw [(onlyC y c h).2]
    exact (e0.bs _ _ hb).2
  · unfold L2.start
    show _ = N.length
    rw [List.length_append, List.length_map, List.length_replicate]
    omega
theorem g_append {M : Model} {A : Around} {c : Code} {env : Env} {Er : Value → Shared → Prop} {Q : Flow → Shared → Prop} {rest : List Stmt} {Γ : PySem.Ctx} (hc : Γ.code = c) (hΓ : Γ.In A) : ∀ {pre : List Stmt} {s : Shared} {p : Pos},
    Sem.wp M Γ (execs pre env) (fun f _ s' => match f with | .next => PySem.wpAt M A c (execs rest env) Q Er s' | f => Q f s') (fun e _ s' => Er e s') p s →
    Sem.wp M Γ (execs (pre ++ rest) env) (fun f _ s' => Q f s') (fun e _ s' => Er e s') p s
  | [], s, p, z => by
    rw [execs_nil, Sem.wp_pure'] at z
    exact z Γ p hc hΓ
  | st :: pre, s, p, z => by
    rw [execs_cons, Sem.wp_bind'] at z
    show Sem.wp M Γ (execs (st :: (pre ++ rest)) env) _ _ p s
    rw [execs_cons, Sem.wp_bind']
    refine Sem.wp_mono M Γ _ (fun f p' s' h' => ?_) (fun _ _ _ h' => h') _ _ z
    cases f with
    | next => exact g_append hc hΓ h'
    | _ =>
      simp only [Sem.wp_pure'] at h' ⊢
      exact h'
theorem at_append {M : Model} {A : Around} {c : Code} {env : Env} {Er : Value → Shared → Prop} {Q : Flow → Shared → Prop} {pre rest : List Stmt} {s : Shared} (h : wpAny M A (execs pre env) (fun f s' => match f with | .next => PySem.wpAt M A c (execs rest env) Q Er s' | f => Q f s') Er s) :
    PySem.wpAt M A c (execs (pre ++ rest) env) Q Er s := fun Γ p hc hΓ => g_append hc hΓ (h Γ p hΓ)
end
/-- what the text has of a class's __init__ that says super().__init__ -/
structure SupC (P : Program) (K : PySem.W.Frag) (mg : Str → Option Value) (scope : Scope) (params : Arguments) (D f2 cc : Addr) (cdv : Value) (sf : Str) : Prop where
  cell : ∃ cl cld csl, K.lookup cc = some ⟨cl, cld, .cell (some (.ref D)), csl⟩
  cls : ∃ cd, PySem.W.clsIn K D = some cd
  code : ∃ (cda : Addr) (ccl : Value) (cdd : Option Addr) (vs : Array Value) (ccs : Array (Option Value)) (file : Str) (tf : Tok), cdv = .ref cda ∧ K.lookup cda = some ⟨ccl, cdd, .fields vs, ccs⟩ ∧ vs[2]? = some (.str file tf) ∧ ((P.main.file : Str) == file) = true
  par : ∃ ar, (params.posonlyargs ++ params.args).head? = some ar ∧ ar.arg = sf
  sub : PySem.W.mroIn K D (.ref D) = some true
  nosup : mg "super" = none
  ks : scope.names.lookup ("super" : Str) = some .globalImplicit
  kc : scope.names.lookup ("__class__" : Str) = some .free
  ka : scope.names.lookup sf = some .local
  top : (P.main.scope.names.lookup ("super" : Str)).isSome = false
  opq : PySem.W.nsIn K cStatics "thirdparty.any" = some none
  meth : PySem.W.ks_superIn K D D "__init__" = some (some (.ref f2))
  fn : PySem.W.fnIn K f2 = true
  ty : ∃ of, K.lookup f2 = some of ∧ of.cls = .type "function"
section
variable {P : Program} {w : World} {K : PySem.W.Frag} {mg : Str → Option Value} {base : Heap} {k : Nat} {f cc D f2 : Addr} {name qual sf : Str} {params : Arguments} {scope : Scope} {dV kV doc pm cdv ct oc : Value} {an od : Option Addr}
  {osl : Array (Option Value)} {N ps : List Str} {sp2 : Sp} {pre post : List Stmt} {p0 p1 ap cp ep : Pos} {e : Expr} {es : List Expr}
def supMid (D f2 : Addr) (sp2 : Sp) (ta : TA) (tpost : TS) (Q : VK) (σ : L2.St) (H : Hp) : Prop :=
  ∃ x dx fs, σ[0]? = some (some (.ref x)) ∧ H x = some (.ins D dx fs) ∧ ∀ q, H q = none → ta σ (upd H q (.met f2 x)) fun ws H3 => H3 q = some (.met f2 x) ∧ sp2 (.ref x :: ws) H3 (fun _ H4 => tpost { nx := fun _ H' => Q .non H', rt := Q } σ H4) C8.E0
theorem run_sup {A : Around} {outer : List Env} {s : Shared} {H : Hp} {args : Args} {Q : VK} {E : XK} {G : List V → Hp → Prop}
    (lk : K.lookup f = some ⟨oc, od, .func (PySem.W.ksFn name qual params (pre ++ .Expr (.Call (.Attribute (.Call (.Name "super" p0) [] [] p1) "__init__" ap) (e :: es) [] cp) ep :: post) scope dV kV doc pm an cdv ct cc), osl⟩) (hcd : PySem.W.codeIn K cdv qual = true)
    (S : FnScopeS N ps scope) (h0 : N[0]? = some sf) (C : SupC P K mg scope params D f2 cc cdv sf) (F2 : FnR P w K mg base C8.CX0 k f2 sp2) (hr : Room (k + 1) A) (e0 : Env0 P w K mg base A outer s H)
    (hb : StX.Bnd C8.CX0 P w K mg base (PySem.W.ksFn name qual params (pre ++ .Expr (.Call (.Attribute (.Call (.Name "super" p0) [] [] p1) "__init__" ap) (e :: es) [] cp) ep :: post) scope dV kV doc pm an cdv ct cc) args ps A outer s H E G)
    (hst : ∀ env : Env, starEach (e :: es) env = (false, eval e env) :: starEach es env) (hpl : ∀ env : Env, (backTo cp (starEach (e :: es) env)).any (·.1) = false)
    (hev : ∀ env : Env, ∃ pl : Sem Bool, eval (.Call (.Attribute (.Call (.Name "super" p0) [] [] p1) "__init__" ap) (e :: es) [] cp) env = (do
      let ov ← attributeBase (.Call (.Name "super" p0) [] [] p1) "__init__" env (eval (.Call (.Name "super" p0) [] [] p1) env)
      standAt ap.atName
      let (f, first) ← holding [ov] (getMethod ov "__init__" pl)
      callWith cp f first (backTo cp (starEach (e :: es) env)) []))
    (hbody : ∀ (s2 : Shared) (H2 : Hp) (vs : List V), G vs H2 → Room k (A.deeper (PySem.W.ksEnv qual scope s2.heap.objs.size f cdv cc)) →
      ∃ tpre ta tpost, PSs (cxS C8.CX0 P w K mg base N qual scope f cdv cc A outer s2 H2 E) pre tpre ∧ PA (cxS C8.CX0 P w K mg base N qual scope f cdv cc A outer s2 H2 E) (e :: es) ta ∧ PSs (cxS C8.CX0 P w K mg base N qual scope f cdv cc A outer s2 H2 E) post tpost ∧
        tpre { nx := supMid D f2 sp2 ta tpost Q, rt := Q } (L2.start N vs) H2) :
    codeAny (model P w) A (.call (.ref f) args) (CR C8.CX0 outer P w H s Q E) s := by
  obtain ⟨cl, cld, csl, hcc⟩ := C.cell
  obtain ⟨cdD, hD⟩ := C.cls
  obtain ⟨cda, ccl, cdd, vs0, ccs, file, tf, rfl, hcda, hvs, hfile⟩ := C.code
  obtain ⟨ar, hpar, har⟩ := C.par
  have KX : K.In s.heap := e0.mod.kin.keeps fun b o e => (e0.bs b o e).1
  refine codeAny_call_function hr.depth (KX _ _ lk) rfl S.co S.gen rfl (PySem.W.codeRec_of KX hcd) ?_
  refine hb _ _ _ fun s2 H2 vs us e2 un ho hx r hl g => ?_
  have lim : s2.heap.NoLimit := e0.mod.nolimit.keeps fun b o e => (e2.bs b o e).1
  have hloc : ∀ y ∈ ps.zip us, (scope.names.lookup y.1 = some .local) := fun y hy => S.par y.1 (List.of_mem_zip hy).1
  refine wpAny_newFunctionEnv S.nocell hloc (fun h1 hns hsb => ⟨lim.fresh _ hsb, ks_codeAny_funcAt ?_⟩) S.kind
  have hk : ∀ b o, s2.heap.get? b = some o → h1.get? b = some o := fun b o e => hsb.extBut b o (Nat.ne_of_lt (Heap.lt_size e)) (Heap.get?_push_of_some _ e)
  obtain ⟨tpre, ta, tpost, hpre, ha, hpost, hq⟩ := hbody s2 H2 vs g (hr.deeper _)
  have I : Inv (cxS C8.CX0 P w K mg base N qual scope f (.ref cda) cc A outer s2 H2 E) [] (L2.start N vs) H2 { s2 with heap := h1, toks := s2.toks + (ps.zip us).length } := inv_startS S hr.hd e2 hl r hcc hns hk
  have fin : ∀ {σ' : L2.St} {H' : Hp} {v' : V} {u' : Value} {s' : Shared}, Inv (cxS C8.CX0 P w K mg base N qual scope f (.ref cda) cc A outer s2 H2 E) [] σ' H' s' → RelV v' u' → Q v' H' → CE outer P w H s Q u' s' :=
    fun {σ' H' v' u' s'} J rv' q => ⟨v', H', J.os.trans ho, J.bare, un.trans J.base, J.hok, rv', q⟩
  have bad : ∀ e s', (cxS C8.CX0 P w K mg base N qual scope f (.ref cda) cc A outer s2 H2 E).xe e s' → wpAny (model P w) (A.deeper (PySem.W.ksEnv qual scope s2.heap.objs.size f (.ref cda) cc)) (leaving (PySem.W.ksEnv qual scope s2.heap.objs.size f (.ref cda) cc) e)
      (fun _ s'' => CR C8.CX0 outer P w H s Q E (.error e) s'') (fun e' s'' => CR C8.CX0 outer P w H s Q E (.error e') s'') s' := fun e s' z => wpAny_mono z (fun _ s'' z => hx e s'' z) fun e' s'' z => hx e' s'' z
  refine ks_wpAt_mono (Q := fun fl s' => SP (cxS C8.CX0 P w K mg base N qual scope f (.ref cda) cc A outer s2 H2 E) [] { nx := fun _ H' => Q .non H', rt := Q } fl s') (at_append (wpAny_mono (hpre.run [] _ _ _ _ I hq) (fun fl s' hs => ?_) fun e s' z => z)) (fun fl s' hs => ?_) bad
  rotate_left
  · cases fl with
    | ret u' =>
      obtain ⟨v', σ', H', J, rv', q⟩ := hs
      exact fin J rv' q
    | next =>
      obtain ⟨σ', H', J, q⟩ := hs
      exact fin (v' := V.non) (u' := Value.none) J rfl q
    | brk =>
      obtain ⟨_, _, _, q⟩ := hs
      exact False.elim q
    | cont =>
      obtain ⟨_, _, _, q⟩ := hs
      exact False.elim q
  cases fl with
  | ret u' => exact hs
  | brk =>
    obtain ⟨_, _, _, q⟩ := hs
    exact False.elim q
  | cont =>
    obtain ⟨_, _, _, q⟩ := hs
    exact False.elim q
  | next =>
    obtain ⟨σ, H', J, x, dx, fs, hσ, hHx, hrest⟩ := hs
    dsimp only
    refine ks_wpAt_execs_cons ?_
    refine ks_wpAt_mono (Q := fun fl s' => fl = .next ∧ ∃ H4, Inv (cxS C8.CX0 P w K mg base N qual scope f (.ref cda) cc A outer s2 H2 E) [] σ H4 s' ∧ tpost { nx := fun _ H' => Q .non H', rt := Q } σ H4) (ks_wpAt_Expr_any ?_ (by unfold interactive; rw [show (newEnv scope s2.heap.objs.size mainGlobals [("__class__", cc)] (qual ++ ".<locals>.") (some f) (Value.ref cda) none builtinsNs).scope.kind = .function from S.kind]; rfl)) (fun fl s' z => ?_) fun e s' z => z
    rotate_left
    · obtain ⟨rfl, H4, J4, q4⟩ := z
      dsimp only
      exact wpAt_of_wpAny (hpost.run [] _ _ _ _ J4 q4)
    have KJ : K.In s'.heap := J.kIn
    have vis : Vis scope sf := .inl C.ka
    obtain ⟨m, hn, look⟩ := J.loc
    obtain ⟨u, ru, lku⟩ := look 0 sf (.ref x) h0 hσ vis
    have eu : u = .ref x := ru
    subst eu
    have hmx : m sf = some (.ref x) := by
      rcases lku with ⟨_, z⟩ | ⟨z, _⟩
      · exact z
      · have z : scope.names.lookup sf = some .cell ∨ scope.names.lookup sf = some .free := z
        rw [C.ka] at z
        rcases z with z | z <;> cases z
    have hcell : s'.heap.get? cc = some ⟨cl, cld, .cell (some (.ref D)), csl⟩ := KJ _ _ hcc
    obtain ⟨oD, hD0, hD1, hD2⟩ : ∃ oD, base.get? D = some oD ∧ s'.heap.get? D = some oD ∧ oD.data = .cls cdD := by
      unfold PySem.W.clsIn at hD
      split at hD
      · rename_i ho
        cases hD
        exact ⟨_, e0.mod.kin _ _ ho, KJ _ _ ho, rfl⟩
      · cases hD
    obtain ⟨mA, OM, _, _, _, _⟩ := ins_get J.hok hHx
    obtain ⟨of, hof, hofc⟩ := C.ty
    have hmeth := C.meth
    unfold PySem.W.ks_superIn at hmeth
    rw [hD] at hmeth
    obtain ⟨pl, hpl2⟩ := hev (PySem.W.ksEnv qual scope s2.heap.objs.size f (.ref cda) cc)
    refine ks_wpAt_MethodCall (pl := pl) ?_ hpl2
    refine ks_wpAt_mono (ks_wpAt_super_base (Q := fun ov s1 => ov = .ref s'.heap.objs.size ∧ ∃ h', s1 = { s' with heap := h' } ∧ h'.get? s'.heap.objs.size = some (PySem.W.ks_superObj D x D) ∧ (∀ y o, s'.heap.get? y = some o → h'.get? y = some o))
      C.ks C.kc (by decide) rfl (KJ _ _ lk) rfl hpar rfl (KJ _ _ hcda) rfl hvs hfile C.top ?_) (fun ov s1 z => ?_) fun e s' z => z
    · obtain ⟨mb, hmb, hmb2⟩ := J.mod.blt
      refine PySem.W.ks_loadName_global S.kind C.ks (PySem.Calls.loadGlobal_builtin (env := PySem.W.ksEnv qual scope s2.heap.objs.size f (.ref cda) cc) (J.mod.glob.keeps J.bk) C.nosup (hmb.keeps J.bk) ((hmb2 _ (by decide +kernel)).trans (show bootBuiltins "super" = some (.type "super") by decide +kernel)) ⟨rfl, ?_⟩)
      refine wpAny_loadName_free S.kind C.kc (c := cc) rfl ⟨_, hcell, rfl⟩ ?_
      have har' : m ar.arg = some (.ref x) := by rw [har]; exact hmx
      refine wpAny_loadName_local S.kind (by rw [har]; exact C.ka) hn har' ?_
      refine ks_wpAny_isType_cls hD1 hD2 ⟨rfl, ?_⟩
      obtain ⟨hh, g, d, t, os⟩ := s'
      refine ks_wpAny_call_super hD1 hD2 OM.obj rfl (fun c z => by cases z) (PySem.W.looks_mroIn KJ C.sub) fun h' e k => ⟨rfl, h', rfl, e, k⟩
    · obtain ⟨rfl, h', rfl, hso, hk'⟩ := z
      have J1 : Inv (cxS C8.CX0 P w K mg base N qual scope f (.ref cda) cc A outer s2 H2 E) [] σ H' { s' with heap := h' } := J.kept (t' := s'.toks) hk'
      obtain ⟨hh, g, d, t, os⟩ := s'
      refine ks_wpAny_getMethod_super hso (PySem.W.looks_opaque J1.kIn C.opq) (l₀ := cdD.mro) (fun A Q E s k q => wpAny_bind ((PySem.W.looks_clsIn J1.kIn hD) A _ E s k (wpAny_pure q))) rfl J1.kIn hmeth (J1.kIn _ _ hof) hofc (fun q => ?_) (by decide) ?_
      · have z := (J.bs _ _ hD0).2
        rw [← q, hHx] at z
        cases z
      · have hq0 : H' h'.objs.size = none := J1.hok.fresh (Nat.le_refl _)
        have J2 : Inv (cxS C8.CX0 P w K mg base N qual scope f (.ref cda) cc A outer s2 H2 E) [] σ (upd H' h'.objs.size (.met f2 x)) ⟨h'.push { cls := .type "method", data := .fields #[.ref f2, .ref x] }, g, d, t + 1, os⟩ :=
          J1.laid (t' := t + 1) (a := h'.objs.size) (o := .met f2 x) (fun b u z => Heap.get?_push_of_some _ z) (Nat.le_refl _)
            (show (h'.push (PySem.W.methodObj (.ref f2) (.ref x))).get? h'.objs.size = some (PySem.W.methodObj (.ref f2) (.ref x)) from Heap.get?_push_size h' rfl)
        have run := ha.run cp [] _ σ _ _ J2 (hrest _ hq0)
        have envs : (cxS C8.CX0 P w K mg base N qual scope f (.ref cda) cc A outer s2 H2 E).env = PySem.W.ksEnv qual scope s2.heap.objs.size f (.ref cda) cc := rfl
        rw [envs, hst] at run
        show wpAny _ _ (callWith cp (.ref h'.objs.size) [] (backTo cp (starEach (e :: es) (PySem.W.ksEnv qual scope s2.heap.objs.size f (.ref cda) cc))) []) _ _ _
        have hp := hpl (PySem.W.ksEnv qual scope s2.heap.objs.size f (.ref cda) cc)
        rw [hst] at hp ⊢
        refine callwith_met (X := cxS C8.CX0 P w K mg base N qual scope f (.ref cda) cc A outer s2 H2 E) (g := f2) (a := x) (by rw [hp]; rfl) C.fn (PySem.Calls.evalArgs_plain ?_)
        refine thn run fun us3 s3 ⟨ws, H3, J3, r3, hm3, hsp⟩ => ⟨met_P J3 hm3, ?_⟩
        refine thn (wpAny_call (call_met J3 hm3 (run_fnR (us := Value.ref x :: us3) (vs := V.ref x :: ws) (Q := fun _ H4 => tpost { nx := fun _ H' => Q .non H', rt := Q } σ H4) F2 (hr.deeper _) C8.pass0 J3 (.cons rfl r3) hsp))) fun u s4 ⟨v4, H4, J4, _, q4⟩ => ⟨rfl, H4, J4, q4⟩
end
end Tl
end

section
set_option Elab.async false
set_option linter.all false
set_option maxRecDepth 100000
set_option maxHeartbeats 4000000
/-! Own rules: match, either, .. -/
namespace Tl
open PySem PySem.Spec PyProof.Rows L2 Evl
section
variable {X : Cx}
/-! ### match over texts -/
structure PMs (X : Cx) (cases : List MatchCase) (t : V → TS) : Prop where
  run : ∀ (pins : List (Addr × Obj)) (s : Shared) (σ : L2.St) (H : Hp) (D : Ends) (v : V) (u : Value) (first : Bool), Inv X pins σ H s → RelV v u → t v D σ H → wpAny (model X.prog X.w) X.A (matchCases cases X.env u first) (SP X pins D) X.xe s
def tCase (c : Str) (t : TS) (tr : V → TS) : V → TS := fun v D σ H => ∃ x, v = .str x ∧ (if x = c then t D σ H else tr v D σ H)
theorem pm_val {c : Str} {j : Nat} {p p2 : Pos} {body : List Stmt} {rest : List MatchCase} {t : TS} {tr : V → TS} (hb : PSs X body t) (hr : PMs X rest tr) : PMs X (⟨.MatchValue (.Constant (.str c) j p) p2, none, body⟩ :: rest) (tCase c t tr) := by
  refine ⟨fun pins s σ H D v u first I ru h => ?_⟩
  obtain ⟨x, rfl, h⟩ := h
  obtain ⟨tk, rfl⟩ := ru
  refine wpAny_matchCases_cons (wpAny_matchPattern_Value (Calls.Constant_str ?_))
  refine thn (op_eq (X := X) pins _ σ H (.str x) (.str c) (.str x tk) _ (fun z H' => z = V.bl (decide (V.str x = V.str c)) ∧ H' = H) (I.tok _) ⟨_, rfl⟩ ⟨_, rfl⟩ ?_) fun w s2 ⟨z, H2, I2, rz, ez, eH⟩ => ?_
  · exact ⟨rfl, rfl, rfl⟩
  · subst ez eH
    have e : decide (V.str x = V.str c) = decide (x = c) := by simp
    rw [e] at rz
    obtain rfl : w = .bool (decide (x = c)) := rz
    refine wpAny_truthy_bool ?_
    by_cases q : x = c
    · rw [decide_eq_true q, if_pos rfl]
      rw [if_pos q] at h
      exact wpAny_assignInOrder_none (hb.run pins s2 σ H2 D I2 h)
    · rw [decide_eq_false q, if_neg (by decide)]
      rw [if_neg q] at h
      exact hr.run pins s2 σ H2 D (.str x) (.str x tk) false I2 ⟨tk, rfl⟩ h
theorem pm_any {p : Pos} {body : List Stmt} {rest : List MatchCase} {t : TS} (hb : PSs X body t) : PMs X (⟨.MatchAs none none p, none, body⟩ :: rest) (fun _ => t) := by
  refine ⟨fun pins s σ H D v u first I ru h => ?_⟩
  exact wpAny_matchCases_cons (wpAny_matchPattern_Capture (wpAny_assignInOrder_none (hb.run pins s σ H D I h)))
def tMatch (te : TE) (t : V → TS) : TS := fun D σ H => te σ H fun v H1 => t v D σ H1
theorem ps_match {e : Expr} {cases : List MatchCase} {p : Pos} {te : TE} {t : V → TS} (he : PE X e te) (hc : PMs X cases t) : PS X (.Match e cases p) (tMatch te t) := by
  refine ⟨fun pins s σ H D I h => ?_⟩
  exact wpAny_Match (thn (he.run pins s σ H _ I h) fun u s1 ⟨v, H1, I1, ru, q⟩ => hc.run pins s1 σ H1 D v u true I1 ru q)
/-! ### either reading -/
theorem pe_either {e : Expr} {t1 t2 : TE} (h1 : PE X e t1) (h2 : PE X e t2) : PE X e (fun σ H Q => t1 σ H Q ∨ t2 σ H Q) :=
  ⟨fun pins s σ H Q I h => h.elim (fun h => h1.run pins s σ H Q I h) fun h => h2.run pins s σ H Q I h⟩
/-! ### the rules that name the written part, with its name -/
section
variable {K : PySem.W.Frag}
theorem in_seqK (h : X.K = K) : OpR X (compareOp .In) (rIn K false) := h ▸ op_in_seq
theorem notIn_seqK (h : X.K = K) : OpR X (compareOp .NotIn) (rIn K true) := h ▸ op_notIn_seq
theorem ix_seqK (h : X.K = K) : IxR X (rIx K) := h ▸ ix_seq
theorem lenK (h : X.K = K) : CallR X (.builtin "len") (rLen K) := h ▸ call_len
theorem isiK (h : X.K = K) : CallR X (.builtin "isinstance") (rIsi K) := h ▸ call_isi
theorem sl_listK (h : X.K = K) : SlR X (rSlL K) := h ▸ sl_list
theorem pe_fldK {e : Expr} {ta : TE} {f : Str} {pos : Pos} (h : X.K = K) (he : PE X e ta) (hb : attributeBase e f X.env (eval e X.env) = eval e X.env) : PE X (.Attribute e f pos) (tFld K ta f) := h ▸ pe_fld he hb
def rJoinK (K : PySem.W.Frag) : V → List V → Hp → VK → Prop := fun x xs H Q => ∃ a p, ∃ ys : List Str, x = .str a ∧ xs = [.ref p] ∧ (SqL K H p (ys.map V.str) ∨ SqT K H p (ys.map V.str)) ∧ (ys.map (·.length)).sum + ys.length * a.length ≤ 16777216 ∧ Q (.str (Txt.join a ys)) H
theorem pe_joinK {o e : Expr} {to te : TE} {apos pos : Pos} (h : X.K = K) (ho : PE X o to) (he : PE X e te) (hs : starEach [e] X.env = [(false, eval e X.env)] := by rfl) (hbase : attributeBase o "join" X.env (eval o X.env) = eval o X.env := by rfl) (hline : (apos.endLine == pos.line) = true := by rfl) :
    PE X (.Call (.Attribute o "join" apos) [e] [] pos) (tM1 (rJoinK K) to te) := h ▸ pe_join ho he hs hbase hline
theorem ev_join {σ : L2.St} {H : Hp} {ta tb : TE} {a : Str} {ys : List Str} (ha : Ev ta σ H (.str a)) (hb : EvL tb σ H (ys.map V.str)) (hz : (ys.map (·.length)).sum + ys.length * a.length ≤ 100000) : Ev (tM1 (rJoinK K) ta tb) σ H (.str (Txt.join a ys)) := fun H1 e Q q =>
  ha H1 e _ fun H2 e2 => ⟨⟨a, rfl⟩, hb H2 (e.trans e2) _ fun p H3 hp e3 h3 => ⟨a, p, ys, rfl, rfl, Or.inl (sq_of h3), by omega, q H3 (e2.trans e3)⟩⟩
end
end
end Tl
end

section
set_option Elab.async false
set_option linter.all false
set_option maxRecDepth 100000
set_option maxHeartbeats 4000000
/-! Bytes: what the library lacks at the hand layer. -/
namespace Tl
open PySem PySem.Spec PyProof.Rows L2 Evl PySem.W
section
variable {X : Cx}
/-! ### text to bytes -/
theorem mt_encode : MtR X "str.encode" (fun x xs H Q => ∃ a, x = .str a ∧ xs = [] ∧ KSb.Asc a ∧ a.length ≤ 100000 ∧ Q (.byt (KSb.enc a)) H) := by
  intro pins s σ H x xs v us Q I rx rs h
  obtain ⟨a, rfl, rfl, ha, hz, q⟩ := h
  obtain ⟨t, rfl⟩ := rx
  cases rs
  refine KSb.encode_K ha (by omega) fun c t' k hc _ _ => ⟨.byt (KSb.enc a), H, I.tok k, ⟨t', ?_⟩, q⟩
  rw [KBf.arr_inj (hc.trans (KSb.enc_ints ha).symm)]
/-! ### find -/
theorem mt_bfind : MtR X "bytes.find" (fun x xs H Q => ∃ b c, x = .byt b ∧ xs = [.byt c] ∧ Q (.int (KBf.told (KBf.first? (KBw.bInts b) (KBw.bInts c)))) H) := by
  intro pins s σ H x xs v us Q I rx rs h
  obtain ⟨b, c, rfl, rfl, q⟩ := h
  obtain ⟨t, rfl⟩ := rx
  obtain ⟨u, rfl, ru⟩ := vals1 rs
  obtain ⟨t2, rfl⟩ := ru
  refine call_gives KBf.slot_find (typeIs_bytes s b t) KBf.entry_find (KBf.args_find _ _) (KBf.gives_find rfl rfl) ?_
  exact ⟨.int _, H, I.tok _, ⟨_, rfl⟩, q⟩
/-! ### zeros, nothing -/
theorem call_bytesN : CallR X (.type "bytes") (fun xs H Q => ∃ n : Nat, xs = [.int n] ∧ n ≤ 100000 ∧ Q (.byt (Array.replicate n 0)) H) := by
  intro pins s σ H xs us Q I rs h
  obtain ⟨n, rfl, hz, q⟩ := h
  obtain ⟨u, rfl, ru⟩ := vals1 rs
  obtain ⟨t2, rfl⟩ := ru
  exact call_bytes_size (by omega) (by omega) fun t k => ⟨.byt (Array.replicate n 0), H, I.tok k, ⟨t, rfl⟩, q⟩
theorem tc0 : checkTypeCall "bytes" ⟨[], []⟩ = pure () := by kernel_rfl
theorem nc0 : checkBuiltinCall "bytes.__new__" ⟨[.type "bytes"], []⟩ = pure () := by kernel_rfl
theorem new0 : Builtin.«bytes.__new__» ⟨[.type "bytes"], []⟩ = (mkBytes #[] >>= fun v => ret v) := by kernel_rfl
theorem call_bytes0 : CallR X (.type "bytes") (fun xs H Q => xs = [] ∧ Q (.byt #[]) H) := by
  intro pins s σ H xs us Q I rs h
  obtain ⟨rfl, q⟩ := h
  cases rs
  refine callType_codes (Q₁ := fun obj s₁ => s₁.TypeIs obj "bytes" ∧ EP X pins σ Q obj s₁) F.bm_called tc0 F.entry_object_init ?_ fun obj s₁ h₁ => ?_
  · refine codeAny_of_tree ?_
    show wpAny _ _ (do checkBuiltinCall "bytes.__new__" ⟨[.type "bytes"], []⟩; again (.builtin "bytes.__new__" ⟨[.type "bytes"], []⟩)) _ _ s
    refine wpAny_bind (wpAny_of_eq nc0 (wpAny_pure ⟨plainId_quiet F.bm_plain _, codeAny_builtin F.bm_entry ?_⟩))
    rw [new0]
    exact wpAny_bind (wpAny_mkBytes (wpAny_pure ⟨typeIs_bytes _ _ _, .byt #[], H, I.tok _, ⟨_, rfl⟩, q⟩) (by decide))
  · exact ⟨h₁.1, F.args_object_init_1 obj, object_init_meets F.bm_called.init.lookup F.bm_called.made (by decide) X.prog X.w X.A.in1 _ s₁ ⟨h₁.1, rfl, h₁.2⟩⟩
/-! ### sum -/
theorem call_sumB (hc : X.calm = true) : CallR X (.builtin "sum") (fun xs H Q => ∃ b, xs = [.byt b] ∧ b.size ≤ 100000 ∧ Q (.int (KBw.bInts b).sum) H) := by
  intro pins s σ H xs us Q I rs h
  obtain ⟨b, rfl, hz, q⟩ := h
  obtain ⟨u, rfl, ru⟩ := vals1 rs
  obtain ⟨t, rfl⟩ := ru
  have hin : ∀ k ∈ KBw.bInts b, 0 ≤ k ∧ k < 256 := fun k hk => KBw.ints_in hk
  have fits : ∀ i, i ≤ b.size → InLong (preSum (fun j => (KBw.bInts b).getD j 0) i) := fun i hi => by
    rw [KBmo.pre_take _ _ (by rw [KBw.ints_length]; exact hi)]
    have z := KBmo.sum_bound (ks := (KBw.bInts b).take i) fun k hk => hin k (List.mem_of_mem_take hk)
    have l : ((KBw.bInts b).take i).length ≤ b.size := by rw [List.length_take, KBw.ints_length]; omega
    constructor <;> (first | omega | (simp only []; omega))
  refine call_sum_walk (KBw.pyIter_bytes ⟨s.heap.objs.size, [s.heap.objs.size], [s.heap.objs.size], b.size, _, _, fun j => (KBw.bInts b).getD j 0, rfl, KBw.walks (A := X.A.in1) (I.ok.hd hc) s.heap.objs.size b t, ⟨_, Heap.get?_push_size _ rfl, rfl, rfl⟩, fun a ha => ?_, ?_, fun j hj => ⟨?_, fits (j + 1) (by omega)⟩, fun h' tk t' hk => ?_⟩)
  · rw [List.mem_singleton.mp ha]
    exact Heap.lt_size (Heap.get?_push_size _ rfl)
  · rintro i v ⟨c, u, hc, rfl⟩
    refine ⟨u, ?_⟩
    show _ = Value.int ((KBw.bInts b).getD i 0) u
    rw [List.getD_eq_getElem?_getD, KBw.ints_get hc, Option.getD_some]
  · have z := KBw.getD_in (ks := KBw.bInts b) (j := j) hin
    constructor <;> (first | omega | (simp only []; omega))
  · rw [← KBw.ints_length b, KBmo.pre_take _ _ (Nat.le_refl _), List.take_length]
    refine ⟨.int _, H, I.kept fun a o e => hk a o (fun m => ?_) (Heap.get?_push_of_some _ e), ⟨t', rfl⟩, q⟩
    rw [List.mem_singleton.mp m] at e
    exact absurd (Heap.lt_size e) (Nat.lt_irrefl _)
/-! ### decode("ascii") -/
theorem dec_found {b : Array UInt8} {p : Nat} (h : (b.getD p 0).toNat < 128) : Builtin._codecs.asciiDecoder.find true b p = .text [(b.getD p 0).toNat] (p + 1) := by
  show (let c := (b.getD p 0).toNat; if c < 128 then Builtin._codecs.Found.char c (p + 1) else _) = _
  dsimp only
  rw [if_pos h]
  rfl
theorem dec_run {b : Array UInt8} (ha : ∀ p, p < b.size → (b.getD p 0).toNat < 128) (hz : b.size ≤ 100000) (id : String) :
    Builtin._codecs.runDecoder id Builtin._codecs.asciiDecoder none true b 0 [] = pure ((b.toList.map UInt8.toNat).toArray, b.size) := by
  have big : ∀ p, ¬ ((KBdo.out b p).size > sizeLine) := fun p => by
    have h := KBdo.out_size b p
    rw [sizeLine_eq]
    omega
  unfold Builtin._codecs.runDecoder
  refine (KBdo.loop_bind (mk := fun p => ((p, KBdo.out b p, ({} : Builtin._codecs.Faults)) : Nat × Array Nat × Builtin._codecs.Faults)) (n := b.size) (fun x p hp => ?_)).trans ?_
  · simp only [if_neg (big p), if_neg (Nat.not_le.mpr hp), dec_found (ha p hp), KBdo.out_next hp]
  · show pure (KBdo.out b b.size, b.size) = _
    rw [KBdo.out_whole]
theorem dec_road {id : String} {b : Array UInt8} : Builtin._codecs.decodeRoad id b (PySem.Str.ofString "ascii") none [] = (Builtin._codecs.runDecoder id Builtin._codecs.asciiDecoder none true b 0 [] >>= fun r => mkStr ⟨r.1⟩) := by kernel_rfl
theorem dec_tree {c : UInt8} {cs : List UInt8} {t t1 : Tok} : Builtin.«bytes.decode» ⟨[.bytes (c :: cs).toArray t, .str (PySem.Str.ofString "ascii") t1], []⟩ =
    (mkStr (PySem.Str.ofString "utf-8") >>= fun _ => mkStr (PySem.Str.ofString "ascii") >>= fun e => mkStr (PySem.Str.ofString "bytes.decode") >>= fun d => call (.builtin "_codecs.decode.text") [.bytes (c :: cs).toArray t, e, .none, d] >>= fun v => ret v) := by kernel_rfl
theorem dec_tree0 {t t1 : Tok} : Builtin.«bytes.decode» ⟨[.bytes #[] t, .str (PySem.Str.ofString "ascii") t1], []⟩ = (rule "bytes.decode.empty" >>= fun _ => mkStr PySem.Str.empty >>= fun v => ret v) := by first | kernel_rfl | rfl
theorem dec_args (a b : Value) : argsOk "bytes.decode" ⟨[a, b], []⟩ := by
  unfold argsOk; rw [signature?_of (id := "bytes.decode") (n := ['e', 'd', 'o', 'c', 'e', 'd']) (o := ['s', 'e', 't', 'y', 'b']) (by kernel_rfl) FB.owner_bytes]; kernel_rfl
/-- the text of bytes below 128 -/
def decT (b : Array UInt8) : Str := ⟨(b.toList.map UInt8.toNat).toArray⟩
theorem dec_text {b : Array UInt8} {t t1 t2 : Tok} {d : Str} (ha : ∀ p, p < b.size → (b.getD p 0).toNat < 128) (hz : b.size ≤ 100000) :
    Meets (Builtin.«_codecs.decode.text» ⟨[.bytes b t, .str (PySem.Str.ofString "ascii") t1, .none, .str d t2], []⟩) (fun _ R s => R (.ok (.ret (.str (decT b) s.toks))) { s with toks := s.toks + 1 }) := by
  refine .of_wp fun prog w A R s h => ?_
  show wpAny _ _ (Builtin.Bytes.bytesLike _ (.bytes b t) >>= fun r => _) _ _ s
  refine wpAny_bind (wpAny_of_eq KBd.like_eq (wpAny_bind (wpAny_of_eq KBd.held_eq ?_)))
  show wpAny _ _ (Builtin._codecs.decodeRoad _ b (PySem.Str.ofString "ascii") none [] >>= fun v => _) _ _ s
  rw [dec_road, dec_run ha hz]
  refine wpAny_bind (wpAny_bind (wpAny_pure (wpAny_mkStr (wpAny_pure ⟨_, rfl, h⟩) ?_)))
  show (b.toList.map UInt8.toNat).toArray.size ≤ sizeLine
  rw [List.size_toArray, List.length_map, Array.length_toList, sizeLine_eq]
  omega
theorem mt_decode : MtR X "bytes.decode" (fun x xs H Q => ∃ b, x = .byt b ∧ xs = [.str "ascii"] ∧ (∀ p, p < b.size → (b.getD p 0).toNat < 128) ∧ b.size ≤ 100000 ∧ Q (.str (decT b)) H) := by
  intro pins s σ H x xs v us Q I rx rs h
  obtain ⟨b, rfl, rfl, ha, hz, q⟩ := h
  obtain ⟨t, rfl⟩ := rx
  obtain ⟨u, rfl, ru⟩ := vals1 rs
  obtain ⟨t2, rfl⟩ := ru
  refine call_meets (S := fun _ R s => ∀ t' k, R (.ok (.ret (.str (decT b) t'))) { s with toks := k }) FB.slot_bytes_decode (typeIs_bytes s b t) FB.entry_bytes_decode (dec_args _ _) (.of_wp fun prog w A R s h => ?_) fun t' k => ⟨.str (decT b), H, I.tok k, ⟨t', rfl⟩, q⟩
  obtain ⟨l⟩ := b
  cases l with
  | nil =>
    have e := dec_tree0 (t := t) (t1 := t2)
    rw [show Builtin.«bytes.decode» ⟨[.bytes ⟨[]⟩ t, .str (PySem.Str.ofString "ascii") t2], []⟩ = _ from e]
    exact wpAny_bind (wpAny_rule (wpAny_bind (wpAny_mkStr (wpAny_pure ⟨_, rfl, h _ _⟩) (by decide))))
  | cons c cs =>
    rw [show Builtin.«bytes.decode» ⟨[.bytes ⟨c :: cs⟩ t, .str (PySem.Str.ofString "ascii") t2], []⟩ = _ from dec_tree]
    refine wpAny_bind (wpAny_mkStr (wpAny_bind (wpAny_mkStr (wpAny_bind (wpAny_mkStr ?_ (by decide))) (by decide))) (by decide))
    exact wpAny_bind (call_function_meets KBd.kind_text KBd.plain_text KBd.entry_text (KBd.args_text _ _ _ _) (dec_text ha hz) (wpAny_pure ⟨_, rfl, h _ _⟩))
/-! ### replace -/
theorem rep_slot : Slot "bytes" "replace" "bytes.replace" :=
  .of (owner := "bytes") (n := "replace") (by rw [typeLookup_type, builtinLookup_eq_fast]; kernel_rfl) (by decide +kernel) (by decide +kernel) (by decide +kernel) (by first | exact .inl (by decide +kernel) | exact .inr (by decide +kernel)) (by rw [isSubtype_type]; kernel_rfl)
theorem rep_type : typeOf (.builtin "bytes.replace") = pure (.type "method_descriptor") := by show builtinType _ = _; rw [builtinType_eq_fast]; kernel_rfl
theorem rep_entry : entryFor table "bytes.replace" = some Builtin.«bytes.replace» := by first | exact entryFor_of_tree (by kernel_rfl) | exact entryFor_of_fast (by kernel_rfl)
theorem rep_args (a b c : Value) : argsOk "bytes.replace" ⟨[a, b, c], []⟩ := by unfold argsOk; rw [signature?_of (id := "bytes.replace") (n := ['e', 'c', 'a', 'l', 'p', 'e', 'r']) (o := ['s', 'e', 't', 'y', 'b']) (by kernel_rfl) FB.owner_bytes]; kernel_rfl
def repB (b o n : Array UInt8) : Array UInt8 := Builtin.Bytes.joined n (Builtin.Bytes.between b o.size (Builtin.Bytes.occurrences b o 0 b.size))
theorem mt_breplace : MtR X "bytes.replace" (fun x xs H Q => ∃ b o n, x = .byt b ∧ xs = [.byt o, .byt n] ∧ o.isEmpty = false ∧ (Builtin.Bytes.occurrences b o 0 b.size).isEmpty = false ∧
    Builtin.Bytes.tooLong (b.size + (Builtin.Bytes.occurrences b o 0 b.size).length * n.size) = false ∧ (repB b o n).size ≤ sizeLine ∧ Q (.byt (repB b o n)) H) := by
  intro pins s σ H x xs v us Q I rx rs h
  obtain ⟨b, o, n, rfl, rfl, ho, hn, hz, hz2, q⟩ := h
  obtain ⟨t, rfl⟩ := rx
  obtain ⟨u1, u2, rfl, r1, r2⟩ := vals2 rs
  obtain ⟨t1, rfl⟩ := r1
  obtain ⟨t2, rfl⟩ := r2
  refine call_meets (S := fun _ R s => ∀ t' k, R (.ok (.ret (.bytes (repB b o n) t'))) { s with toks := k }) rep_slot (typeIs_bytes s b t) rep_entry (rep_args _ _ _) (.of_wp fun prog w A R s h => ?_) fun t' k => ⟨.byt (repB b o n), H, I.tok k, ⟨t', rfl⟩, q⟩
  show wpAny _ _ (Builtin.Bytes.replaceM .bytes ⟨[.bytes b t, .bytes o t1, .bytes n t2], []⟩) _ _ s
  unfold Builtin.Bytes.replaceM
  refine wpAny_bind (wpAny_of_eq (a := (Value.bytes b t, [Value.bytes o t1, Value.bytes n t2])) (by first | rfl | kernel_rfl) ?_)
  dsimp only
  refine wpAny_bind (wpAny_of_eq KBd.like_eq (wpAny_bind (wpAny_of_eq KBd.like_eq (wpAny_bind (wpAny_of_eq (a := (-1 : Int)) (by first | rfl | kernel_rfl) ?_)))))
  refine wpAny_bind (wpAny_of_eq KBd.like_eq (wpAny_bind (wpAny_of_eq KBd.like_eq (wpAny_bind (wpAny_of_eq (a := b) (by first | rfl | kernel_rfl) ?_)))))
  simp only [ho, Bool.false_eq_true, if_false, show ((-1 : Int) < 0) = True from by simp, if_true, hn, Bool.false_and, Bool.or_self, hz]
  exact wpAny_bind (wpAny_mkBytes (wpAny_pure ⟨_, rfl, h _ _⟩) hz2)
/-! ### methods of bytes -/
def tBB (r : V → List V → Hp → VK → Prop) (to : TE) (t : TA) : TE := fun σ H Q => to σ H fun x H1 => (∃ b, x = .byt b) ∧ t σ H1 fun xs H2 => r x xs H2 Q
theorem pe_bb {o e : Expr} {es : List Expr} {to : TE} {t : TA} {name : Str} {apos cpos : Pos} {id : String} {r : V → List V → Hp → VK → Prop} (slot : Slot "bytes" name id) (hty : typeOf (.builtin id) = pure (.type "method_descriptor")) (hm : MtR X id r) (ho : PE X o to) (ha : PA X (e :: es) t)
    (hbase : attributeBase o name X.env (eval o X.env) = eval o X.env := by rfl)
    (hfew : ((backTo cpos (starEach (e :: es) X.env)).all (fun x => !x.1) && (backToKw cpos (keywordEach [] X.env)).all (fun x => x.1.isSome) && decide ((e :: es).length + ([] : List Keyword).length + (if ([] : List Keyword).isEmpty then 0 else 1) < 30)) = true := by rfl)
    (hline : (apos.endLine == cpos.line) = true := by rfl) (hs : starEach (e :: es) X.env = (false, eval e X.env) :: starEach es X.env := by rfl) (hplain : (backTo cpos (starEach es X.env)).any (·.1) = false := by rfl) :
    PE X (.Call (.Attribute o name apos) (e :: es) [] cpos) (tBB r to t) := by
  refine ⟨fun pins s σ H Q I h => ?_⟩
  refine wpAny_Call_method_late hbase hfew hline rfl (thn (ho.run pins s σ H _ I h) fun v s1 ⟨x, H1, I1, r1, ⟨b, eb⟩, q1⟩ => ?_)
  subst eb
  obtain ⟨tk, rfl⟩ := _root_.id r1
  refine ⟨"bytes", id, FB.plainAttrs_bytes, slot, hty, typeIs_bytes _ _ _, (fun _ z => by cases z), ?_⟩
  have run := ha.run cpos pins s1 σ H1 _ I1 q1
  rw [hs] at run ⊢
  refine Calls.callWith_builtin (by show (false || (backTo cpos (starEach es X.env)).any (·.1)) = false; rw [hplain] <;> rfl) (Calls.evalArgs_plain ?_)
  exact thn run fun us s2 ⟨vs, H2, I2, r2, q2⟩ => hm pins s2 σ H2 (.byt b) vs (.bytes b tk) us Q I2 ⟨tk, rfl⟩ r2 q2
theorem ev_bb {σ : L2.St} {H : Hp} {ta : TE} {z : V} {r : V → List V → Hp → VK → Prop} {tl : TA} {b : Array UInt8} {vs : List V} (ha : Ev ta σ H (.byt b)) (hb : EvA tl σ H vs) (hr : ∀ H1, Ex H H1 → ∀ Q : VK, (∀ H2, Ex H1 H2 → Q z H2) → r (.byt b) vs H1 Q) : Ev (tBB r ta tl) σ H z := fun H1 e Q q =>
  ha H1 e _ fun H2 e2 => ⟨⟨b, rfl⟩, hb H2 (e.trans e2) _ fun H3 e3 => hr H3 ((e.trans e2).trans e3) Q fun H4 e4 => q H4 ((e2.trans e3).trans e4)⟩
end
end Tl
end

section
set_option Elab.async false
set_option linter.all false
set_option maxRecDepth 100000
set_option maxHeartbeats 4000000
/-! Members as values, on the heap. -/
namespace Tl
open PySem PySem.Spec PyProof.Rows L2 Evl
open Tar (By)
abbrev sS (l : List Nat) : Str := SX.S l
abbrev vS (l : List Nat) : V := .str (sS l)
abbrev vB (l : By) : V := .byt l.toArray
/-- the labels, the symlinks' and the links' targets -/
def labels : List (List Nat) := [[97], [98], [100], [100, 47, 97], [100, 47, 98], [100, 47, 101], [100, 47, 101, 47, 99], [115]]
def symTs : List (List Nat) := [[97], [46, 46, 47, 100], [47], [115], [100, 47, 101]]
def lnkTs : List (List Nat) := [[97], [98], [100, 47, 97], [100, 47, 101, 47, 99], [115]]
theorem labels_str : [("a" : Str), "b", "d", "d/a", "d/b", "d/e", "d/e/c", "s"] = labels.map sS := by decide +kernel
theorem symTs_str : [("a" : Str), "../d", "/", "s", "d/e"] = symTs.map sS := by decide +kernel
theorem lnkTs_str : [("a" : Str), "b", "d/a", "d/e/c", "s"] = lnkTs.map sS := by decide +kernel
/-- a member; a sparse one of k pieces of size 9 -/
inductive Mem where
  | fil (nm : List Nat) (mo ti : Nat) (d : By)
  | spa (nm : List Nat) (mo ti : Nat) (k : Nat) (x y : UInt8)
  | dir (nm : List Nat) (mo ti : Nat)
  | sym (nm : List Nat) (mo ti : Nat) (tg : List Nat)
  | lnk (nm : List Nat) (mo ti : Nat) (tg : List Nat)
namespace Mem
def nm : Mem → List Nat | fil n .. => n | spa n .. => n | dir n .. => n | sym n .. => n | lnk n .. => n
def mo : Mem → Nat | fil _ n .. => n | spa _ n .. => n | dir _ n .. => n | sym _ n .. => n | lnk _ n .. => n
def ti : Mem → Nat | fil _ _ n .. => n | spa _ _ n .. => n | dir _ _ n .. => n | sym _ _ n .. => n | lnk _ _ n .. => n
def cls (a : Ad) : Mem → Addr | fil .. => a.cFile | spa .. => a.cSparse | dir .. => a.cDir | sym .. => a.cSym | lnk .. => a.cLink
def kd : Mem → Str | fil .. => "file" | spa .. => "sparse" | dir .. => "directory" | sym .. => "symlink" | lnk .. => "link"
structure Base (nm : List Nat) (mo ti : Nat) : Prop where
  nm : nm ∈ labels
  mo : mo ≤ 4095
  ti : ti ≤ 8589934591
def Ok : Mem → Prop
  | fil n m t d => Base n m t ∧ d.length ≤ 8
  | spa n m t k _ _ => Base n m t ∧ k ≤ 2
  | dir n m t => Base n m t
  | sym n m t g => Base n m t ∧ g ∈ symTs
  | lnk n m t g => Base n m t ∧ g ∈ lnkTs
theorem Ok.base : ∀ {m : Mem}, m.Ok → Base m.nm m.mo m.ti
  | fil .., h => h.1 | spa .., h => h.1 | dir .., h => h | sym .., h => h.1 | lnk .., h => h.1
end Mem
def pcs (k : Nat) (x y : UInt8) : List (Nat × By) := [(1, [x, y]), (5, [7])].take k
/-- the piece tuples -/
def PcAt (H : Hp) (q : V) (p : Nat × By) : Prop := ∃ b, q = .ref b ∧ H b = some (.tup [vN p.1, vB p.2])
def PcsAt (H : Hp) (vs : List V) (ps : List (Nat × By)) : Prop := Paired (PcAt H) vs ps
def more (pt : Addr) : Mem → List V
  | .fil _ _ _ d => [vB d]
  | .spa .. => [.int 9, .ref pt]
  | .dir .. => []
  | .sym _ _ _ g => [vS g]
  | .lnk _ _ _ g => [vS g]
def own (pt : Addr) : Mem → List (Str × V)
  | .fil _ _ _ d => [("data", vB d)]
  | .spa .. => [("size", .int 9), ("pieces", .ref pt)]
  | .dir .. => []
  | .sym _ _ _ g => [("target", vS g)]
  | .lnk _ _ _ g => [("target", vS g)]
def Pcs (H : Hp) (pt : Addr) : Mem → Prop
  | .spa _ _ _ k x y => ∃ vs, H pt = some (.tup vs) ∧ PcsAt H vs (pcs k x y)
  | _ => True
def base4 (m : Mem) (key : Addr) : List (Str × V) := [("name", vS m.nm), ("mode", vN m.mo), ("time", vN m.ti), ("key", .ref key)]
structure MemAt (a : Ad) (H : Hp) (p : Addr) (m : Mem) : Prop where
  ex : ∃ dx key pt, H p = some (.ins (m.cls a) dx (base4 m key ++ own pt m)) ∧ H key = some (.tup (.str m.kd :: vS m.nm :: vN m.mo :: vN m.ti :: more pt m)) ∧ Pcs H pt m
theorem paired_get {α β : Type} {R : α → β → Prop} : ∀ {xs : List α} {ys : List β} {i : Nat} {x : α}, Paired R xs ys → xs[i]? = some x → ∃ y, ys[i]? = some y ∧ R x y
  | _, _, _, _, .nil, h => by simp at h
  | _, _, 0, _, .cons r _, h => ⟨_, rfl, by
    have e := Option.some.inj h
    subst e
    exact r⟩
  | _, _, i + 1, _, .cons _ t, h => paired_get (i := i) t h
theorem paired_len {α β : Type} {R : α → β → Prop} {xs : List α} {ys : List β} (h : Paired R xs ys) : xs.length = ys.length := by
  induction h with
  | nil => rfl
  | cons _ _ ih => rw [List.length_cons, List.length_cons, ih]
theorem paired_of {α β : Type} {R : α → β → Prop} : ∀ {xs : List α} {ys : List β}, xs.length = ys.length → (∀ (i : Nat) (x : α) (y : β), xs[i]? = some x → ys[i]? = some y → R x y) → Paired R xs ys
  | [], [], _, _ => .nil
  | x :: xs, y :: ys, h, k => .cons (k 0 x y rfl rfl) (paired_of (Nat.succ.inj h) fun i a b h1 h2 => k (i + 1) a b h1 h2)
theorem paired_app {α β : Type} {R : α → β → Prop} {xs xs2 : List α} {ys ys2 : List β} (h : Paired R xs ys) (h2 : Paired R xs2 ys2) : Paired R (xs ++ xs2) (ys ++ ys2) := by
  induction h with
  | nil => exact h2
  | cons r _ ih => exact .cons r ih
/-! ### what stays -/
def Stay (a : Ad) (o : HO) : Prop := (∃ xs, o = .tup xs) ∨ ∃ C dx fs, o = .ins C dx fs ∧ C ≠ a.cHouse
def ExT (a : Ad) (H H' : Hp) : Prop := ∀ p o, H p = some o → Stay a o → H' p = some o
theorem ExT.refl {a : Ad} (H : Hp) : ExT a H H := fun _ _ h _ => h
theorem ExT.trans {a : Ad} {H H1 H2 : Hp} (x : ExT a H H1) (y : ExT a H1 H2) : ExT a H H2 := fun p o h s => y p o (x p o h s) s
theorem ExT.of {a : Ad} {H H' : Hp} (e : Ex H H') : ExT a H H' := fun p o h _ => e p o h
theorem ExT.ofL {a : Ad} {H H' : Hp} (e : ExL H H') : ExT a H H' := fun p o h s => e p o h fun xs z => by
  subst z
  rcases s with ⟨_, q⟩ | ⟨_, _, _, q, _⟩ <;> cases q
theorem ExT.put {a : Ad} {H : Hp} {D : Addr} {u o : HO} (h : H D = some u) (n : ¬ Stay a u) : ExT a H (upd H D o) := fun p v e s => by
  by_cases q : p = D
  · subst q
    rw [h] at e
    cases e
    exact absurd s n
  · rw [upd_ne q]
    exact e
theorem stay_lst {a : Ad} {xs : List V} : ¬ Stay a (.lst xs) := fun s => by rcases s with ⟨_, q⟩ | ⟨_, _, _, q, _⟩ <;> cases q
theorem stay_dK {a : Ad} {xs : List (Key × V)} : ¬ Stay a (.dK xs) := fun s => by rcases s with ⟨_, q⟩ | ⟨_, _, _, q, _⟩ <;> cases q
theorem PcAt.mono {a : Ad} {H H' : Hp} {q : V} {p : Nat × By} (e : ExT a H H') (h : PcAt H q p) : PcAt H' q p := by
  obtain ⟨b, rfl, hb⟩ := h
  exact ⟨b, rfl, e _ _ hb (.inl ⟨_, rfl⟩)⟩
theorem PcsAt.mono {a : Ad} {H H' : Hp} {vs : List V} {ps : List (Nat × By)} (e : ExT a H H') (h : PcsAt H vs ps) : PcsAt H' vs ps := Paired.mapP h fun _ _ z => z.mono e
theorem Pcs.mono {a : Ad} {H H' : Hp} {pt : Addr} {m : Mem} (e : ExT a H H') (h : Pcs H pt m) : Pcs H' pt m := by
  cases m <;> try trivial
  obtain ⟨vs, h1, h2⟩ := h
  exact ⟨vs, e _ _ h1 (.inl ⟨_, rfl⟩), h2.mono e⟩
structure Apart (a : Ad) : Prop where
  file : a.cFile ≠ a.cHouse
  spa : a.cSparse ≠ a.cHouse
  dir : a.cDir ≠ a.cHouse
  sym : a.cSym ≠ a.cHouse
  lnk : a.cLink ≠ a.cHouse
theorem cls_ne {a : Ad} (A : Apart a) (m : Mem) : m.cls a ≠ a.cHouse := by
  cases m
  · exact A.file
  · exact A.spa
  · exact A.dir
  · exact A.sym
  · exact A.lnk
theorem MemAt.mono {a : Ad} (A : Apart a) {H H' : Hp} {p : Addr} {m : Mem} (e : ExT a H H') (h : MemAt a H p m) : MemAt a H' p m := by
  obtain ⟨dx, key, pt, h1, h2, h3⟩ := h
  exact ⟨dx, key, pt, e _ _ h1 (.inr ⟨_, _, _, rfl, cls_ne A m⟩), e _ _ h2 (.inl ⟨_, rfl⟩), h3.mono e⟩
/-! ### what of the text a class must have -/
structure ClF (K : PySem.W.Frag) (C : Addr) (fs : List Str) : Prop where
  cl : Cls K C
  no : ∀ f ∈ fs, NoAttr K C f
structure Mcl (K : PySem.W.Frag) (a : Ad) : Prop where
  ap : Apart a
  file : ClF K a.cFile ["name", "mode", "time", "key", "data"]
  spa : ClF K a.cSparse ["name", "mode", "time", "key", "size", "pieces"]
  dir : ClF K a.cDir ["name", "mode", "time", "key"]
  sym : ClF K a.cSym ["name", "mode", "time", "key", "target"]
  lnk : ClF K a.cLink ["name", "mode", "time", "key", "target"]
  kind : ∀ m : Mem, ∃ u, Con K (m.cls a) "KIND" (.str m.kd) u
  insC : ∀ m : Mem, C8.InsC K (m.cls a)
  isM : ∀ m : Mem, PySem.W.kitOne K (.ref (m.cls a)) (.ref a.cMember) = some true
theorem Mcl.at {K : PySem.W.Frag} {a : Ad} (M : Mcl K a) (m : Mem) : Cls K (m.cls a) ∧ ∀ f ∈ (base4 m 0 ++ own 0 m).map (·.1), NoAttr K (m.cls a) f := by
  cases m
  · exact ⟨M.file.cl, M.file.no⟩
  · exact ⟨M.spa.cl, M.spa.no⟩
  · exact ⟨M.dir.cl, M.dir.no⟩
  · exact ⟨M.sym.cl, M.sym.no⟩
  · exact ⟨M.lnk.cl, M.lnk.no⟩
section
variable {σ : L2.St} {H H' : Hp} {ta : TE} {K : PySem.W.Frag} {a : Ad} {p : Addr} {m : Mem}
theorem ev_mem {f : Str} {v : V} (M : Mcl K a) (h : MemAt a H p m) (ha : Ev ta σ H (.ref p)) (hf : f ∈ (base4 m 0 ++ own 0 m).map (·.1)) (hl : ∀ dx key pt, H p = some (.ins (m.cls a) dx (base4 m key ++ own pt m)) → (base4 m key ++ own pt m).lookup f = some v) : Ev (tFld K ta f) σ H v := by
  obtain ⟨dx, key, pt, h1, _, _⟩ := h
  exact ev_fld ha h1 (M.at m).1 ((M.at m).2 f hf) (hl dx key pt h1)
theorem ev_name (M : Mcl K a) (h : MemAt a H p m) (ha : Ev ta σ H (.ref p)) : Ev (tFld K ta "name") σ H (vS m.nm) := ev_mem M h ha (.head _) fun _ _ _ _ => rfl
theorem ev_mode (M : Mcl K a) (h : MemAt a H p m) (ha : Ev ta σ H (.ref p)) : Ev (tFld K ta "mode") σ H (vN m.mo) := ev_mem M h ha (.tail _ (.head _)) fun _ _ _ _ => rfl
theorem ev_time (M : Mcl K a) (h : MemAt a H p m) (ha : Ev ta σ H (.ref p)) : Ev (tFld K ta "time") σ H (vN m.ti) := ev_mem M h ha (.tail _ (.tail _ (.head _))) fun _ _ _ _ => rfl
theorem ev_kind (M : Mcl K a) (h : MemAt a H p m) (ha : Ev ta σ H (.ref p)) : Ev (tCon K ta "KIND") σ H (.str m.kd) := by
  obtain ⟨dx, key, pt, h1, _, _⟩ := h
  obtain ⟨u, hu⟩ := M.kind m
  exact ev_con ha h1 (M.at m).1 hu (by cases m <;> rfl)
end
/-! ### bytes as lists -/
section
variable {σ : L2.St} {H : Hp} {ta tb : TE} {K : PySem.W.Frag} {l m : By} {n : Nat}
theorem szB (l : By) : l.toArray.size = l.length := List.size_toArray
theorem ev_catB (ha : Ev ta σ H (vB l)) (hb : Ev tb σ H (vB m)) (h : l.length + m.length ≤ 100000) : Ev (tOp (fun x y H Q => ∃ i j, x = .byt i ∧ y = .byt j ∧ i.size + j.size ≤ 16777216 ∧ Q (.byt (i ++ j)) H) ta tb) σ H (vB (l ++ m)) :=
  ev_op ha hb (rv_val fun H1 _ Q q => ⟨_, _, rfl, rfl, by rw [szB, szB]; omega, by rw [List.append_toArray]; exact q⟩)
theorem ev_zeros {z : Int} (ha : Ev ta σ H (.int z)) (e : z = (n : Int)) (h : n ≤ 100000) : Ev (tCB (fun xs H Q => ∃ n : Nat, xs = [.int n] ∧ n ≤ 100000 ∧ Q (.byt (Array.replicate n 0)) H) (tCons ta tNil)) σ H (vB (Tar.zs n)) := by
  subst e
  refine ev_cb (ea_cons ha ea_nil) fun H1 _ Q q => ⟨n, rfl, h, ?_⟩
  have e : Array.replicate n (0 : UInt8) = (Tar.zs n).toArray := by
    simp [Tar.zs]
  rw [e]
  exact q H1 (Ex.refl H1)
theorem ev_len8 (ha : Ev ta σ H (vB l)) (h : l.length ≤ 100000) : Ev (tCB (rLen K) (tCons ta tNil)) σ H (vN l.length) := by
  have z := ev_lenB (K := K) ha (by rw [szB]; exact h)
  rwa [szB] at z
/-- a slice of bytes -/
theorem ev_slB {tl th : TO} {i j : Nat} (ha : Ev ta σ H (vB l)) (h1 : EvO tl σ H (some (i : Int))) (h2 : EvO th σ H (some (j : Int))) (hi : i ≤ l.length) (hj : i ≤ j) (hz : l.length ≤ 100000) : Ev (tSl rSlB ta tl th) σ H (vB ((l.drop i).take (j - i))) := fun H1 e Q q =>
  ha H1 e _ fun H2 e2 => h1 H2 (e.trans e2) _ fun H3 e3 => h2 H3 ((e.trans e2).trans e3) _ fun H4 e4 => ⟨l.toArray, rfl, by rw [szB]; omega, by
    have z : PySem.W.KBy.picked l.toArray (some (i : Int)) (some (j : Int)) = ((l.drop i).take (j - i)).toArray := by
      by_cases hjl : j ≤ l.length
      · exact pk_mid hi hjl
      · rw [pk_over hi (by omega), List.take_of_length_le (by rw [List.length_drop]; omega)]
    rw [z]
    exact q H4 ((e2.trans e3).trans e4)⟩
theorem ev_slBto {th : TO} {j : Nat} (ha : Ev ta σ H (vB l)) (h2 : EvO th σ H (some (j : Int))) (hz : l.length ≤ 100000) : Ev (tSl rSlB ta tNoPart th) σ H (vB (l.take j)) := fun H1 e Q q =>
  ha H1 e _ fun H2 e2 => h2 H2 (e.trans e2) _ fun H4 e4 => ⟨l.toArray, rfl, by rw [szB]; omega, by
    have z : PySem.W.KBy.picked l.toArray none (some (j : Int)) = (l.take j).toArray := by
      rw [PySem.W.KBc.picked_eq]
      show ((l.drop 0).take (clipAt l.toArray.size (j : Int) - 0)).toArray = _
      rw [clipAt_nat, szB, List.drop_zero, Nat.sub_zero]
      by_cases hjl : j ≤ l.length
      · rw [Nat.min_eq_left hjl]
      · rw [Nat.min_eq_right (by omega), List.take_of_length_le (Nat.le_refl _), List.take_of_length_le (by omega)]
    rw [z]
    exact q H4 (e2.trans e4)⟩
theorem ev_slBfrom {tl : TO} {i : Nat} (ha : Ev ta σ H (vB l)) (h1 : EvO tl σ H (some (i : Int))) (hi : i ≤ l.length) (hz : l.length ≤ 100000) : Ev (tSl rSlB ta tl tNoPart) σ H (vB (l.drop i)) := fun H1 e Q q =>
  ha H1 e _ fun H2 e2 => h1 H2 (e.trans e2) _ fun H4 e4 => ⟨l.toArray, rfl, by rw [szB]; omega, by
    rw [pk_from hi]
    exact q H4 (e2.trans e4)⟩
end
theorem atI_nat {α : Type} {xs : List α} {i : Nat} {x : α} (h : xs[i]? = some x) : atI xs (i : Int) = some x := by
  have hl : i < xs.length := (List.getElem?_eq_some_iff.1 h).1
  unfold atI
  rw [ixN_nat hl]
  exact h
theorem atI0 {α : Type} {xs : List α} {x : α} : atI (x :: xs) 0 = some x := atI_nat (i := 0) rfl
theorem atI1 {α : Type} {xs : List α} {x y : α} : atI (y :: x :: xs) 1 = some x := atI_nat (i := 1) rfl
end Tl
end

section
set_option Elab.async false
set_option linter.all false
set_option maxRecDepth 100000
set_option maxHeartbeats 4000000
namespace Tl
open PySem PySem.Spec PyProof.Rows L2 Evl
open C8 (Cal Met Mak pe_c pe_mk pe_mt pe_mt0 pe_gc fnScope_by)
section
variable {P : Program} {w : World} {K : PySem.W.Frag} {mg : Str → Option Value} {base : Heap} {a : Ad}
abbrev nm_is_integer : List Str := ["thing"]
theorem sc_is_integer : FnScope nm_is_integer ["thing"] (defScope s_is_integer) := fnScope_by (by decide +kernel)
theorem ok_is_integer (T : Txt K mg a) (F : DB K mg "is_integer" s_is_integer ["thing"]) : Cal P w K mg base 1 "is_integer" (spV 1 fun vs _ z => ∃ i, vs = [.int i] ∧ z = .bl true) [] := by
  refine cal_of F sc_is_integer (fun _ _ _ _ h => h.1) fun f cdv A outer s H vs Q E hr h => ⟨_, (pss_one (ps_ret (pe_and (pe_callB call_isi (by rfl) T.b_isinstance (by decide +kernel) (pa_cons (pv 0) (pa_cons (pe_bltn (v := .ty "int") (by rfl) T.b_int (by decide +kernel) rfl) pa_nil))) (pe_one (pe_not (pe_callB call_isi (by rfl) T.b_isinstance (by decide +kernel) (pa_cons (pv 0) (pa_cons (pe_bltn (v := .ty "bool") (by rfl) T.b_bool (by decide +kernel) rfl) pa_nil)))))))), ?_⟩
  obtain ⟨_, _, ⟨i, rfl, rfl⟩, k⟩ := h
  exact s_ret (ev_andV (b := true) (ev_isiB (n := "int") (b := true) (ev_var rfl) (.base (.int i)) (by decide +kernel)) fun _ => ev_notV (ev_isiB (n := "int") (b := false) (ev_var rfl) (.base (.int i)) (by decide +kernel))) k
abbrev nm_is_within : List Str := ["thing", "low", "high"]
theorem sc_is_within : FnScope nm_is_within ["thing", "low", "high"] (defScope s_is_within) := fnScope_by (by decide +kernel)
abbrev rWithin : List V → Hp → V → Prop := fun vs _ z => ∃ i lo hi : Int, vs = [.int i, .int lo, .int hi] ∧ z = .bl (decide (lo ≤ i) && decide (i ≤ hi))
theorem ok_is_within (T : Txt K mg a) (F : DB K mg "is_within" s_is_within ["thing", "low", "high"]) (c_is_integer : Cal P w K mg base 1 "is_integer" (spV 1 fun vs _ z => ∃ i, vs = [.int i] ∧ z = .bl true) []) :
    Cal P w K mg base 2 "is_within" (spV 3 rWithin) [] := by
  refine cal_of F sc_is_within (fun _ _ _ _ h => h.1) fun f cdv A outer s H vs Q E hr h => ⟨_, (pss_one (ps_ret (pe_and (C8.pe_c c_is_integer hr (by decide) rfl (pa_cons (pv 0) pa_nil)) (pe_one (pe_chain op_le op_le (pv 1) (pv 0) (pv 2)))))), ?_⟩
  obtain ⟨_, _, ⟨i, lo, hi, rfl, rfl⟩, k⟩ := h
  exact s_ret (ev_andV (a := true) (b := decide (lo ≤ i) && decide (i ≤ hi)) (ev_callV (ea_cons (ev_var rfl) ea_nil) rfl fun _ _ => ⟨i, rfl, rfl⟩) fun _ => ev_chain (ev_var rfl) (ev_var rfl) (ev_var rfl)) k
abbrev nm_blob : List Str := ["numbers", "number"]
theorem sc_blob : FnScope nm_blob ["numbers"] (defScope s_blob) := fnScope_by (by decide +kernel)
abbrev rBlob (K : PySem.W.Frag) : List V → Hp → V → Prop := fun vs H z => ∃ (p : Addr) (l : List UInt8), vs = [.ref p] ∧ H p = some (.lst (l.map fun c => V.int ((c.toNat : Nat) : Int))) ∧ l.length ≤ 1000 ∧ z = .byt l.toArray
theorem ok_blob (T : Txt K mg a) (F : DB K mg "blob" s_blob ["numbers"]) (c_is_within : Cal P w K mg base 2 "is_within" (spV 3 rWithin) []) :
    Cal P w K mg base 3 "blob" (spV 1 (rBlob K)) [] := by
  refine cal_of F sc_blob (fun _ _ _ _ h => h.1) fun f cdv A outer s H vs Q E hr h => ⟨_, (pss_cons (ps_if (PW.pt (pw_or (pt_not (pt_val (pe_callB call_isiT (by rfl) T.b_isinstance (by decide +kernel) (pa_cons (pv 0) (pa_cons (pe_tup (pa_cons (pe_bltn (v := .ty "list") (by rfl) T.b_list (by decide +kernel) rfl) (pa_cons (pe_bltn (v := .ty "tuple") (by rfl) T.b_tuple (by decide +kernel) rfl) pa_nil))) pa_nil))))) (pw_or1 (pt_not (pt_val (pe_callB (cr_all rfl) (by rfl) T.b_all (by decide +kernel) (pa_cons (pe_lc (own := [("number", 1)]) (g := (gName 1)) (tt := tYes) rfl sc_blob.nd (pi_list (pv 0)) (blkOk_by (own := [("number", 1)]) (N := nm_blob) (sc := defScope s_blob) (by decide +kernel)) (fun _ _ _ _ _ => (pg_name (i := 1) sc_blob.nd rfl (Or.inl rfl))) (fun _ _ _ _ _ => pts_nil) (fun _ _ _ _ _ => (C8.pe_c c_is_within hr (by decide) rfl (pa_cons (pv 1) (pa_cons pe_int (pa_cons pe_int pa_nil)))))) pa_nil))))))) (pss_one ps_never) pss_nil)
    (pss_one (ps_ret (pe_callTy (call_bytes_list rfl) (by rfl) T.b_bytes (by decide +kernel) (pa_cons (pv 0) pa_nil))))), ?_⟩
  obtain ⟨_, _, ⟨p, l, rfl, hp, hl, rfl⟩, k⟩ := h
  have hq : ∀ {H1}, Ex H H1 → SqL K H1 p (l.map fun c => V.int ((c.toNat : Nat) : Int)) := fun e => sq_of (e p _ hp)
  have hb : ∀ c : UInt8, (decide ((0 : Int) ≤ ((c.toNat : Nat) : Int)) && decide (((c.toNat : Nat) : Int) ≤ 255)) = true := fun c => by
    have := c.toNat_lt
    simp; omega
  refine q_when (et_or (a := false) (b := false) (et_nT (et_B (ev_isiT (b := true) (ev_var rfl) (ea_cons ev_c (ea_cons ev_c ea_nil)) (by decide) (.cons (.ty _) (.cons (.ty _) .nil)) (.base (.lst hp)) (kit_hit (kit_ty (by decide +kernel)))))) fun _ => et_nT (et_B ?_)) (fun h => absurd h (by decide)) fun _ H1 e => ?_
  · refine ev_allX (ei_list (ev_var rfl) (hq (Ex.refl H))) (by rw [List.length_map]; omega) (fun x => rfl) fun x H1 hx e => ?_
    obtain ⟨c, _, rfl⟩ := List.mem_map.1 hx
    exact ev_callV (ea_cons (ev_var rfl) (ea_cons ev_c (ea_cons ev_c ea_nil))) rfl fun H2 _ => ⟨_, _, _, rfl, by rw [hb]⟩
  · refine s_ret (v := .byt l.toArray) (ev_cb (ea_cons (ev_var rfl) ea_nil) ?_) fun H2 e2 => k H2 (e.trans e2)
    intro H2 e2 Q2 q2
    refine ⟨p, l.map fun c => ((c.toNat : Nat) : Int), rfl, ?_, ?_, ?_⟩
    · rw [List.map_map]
      exact hq (e.trans e2)
    · intro n hn
      obtain ⟨c, _, rfl⟩ := List.mem_map.1 hn
      have := c.toNat_lt
      constructor <;> omega
    · have e3 : byteArr (l.map fun c => ((c.toNat : Nat) : Int)) = l.toArray := by
        unfold byteArr
        rw [List.map_map]
        congr 1
        conv => rhs; rw [← List.map_id l]
        refine List.map_congr_left fun c _ => ?_
        show (((c.toNat : Nat) : Int).toNat).toUInt8 = c
        simp
      rw [e3]
      exact q2 H2 (Ex.refl H2)
abbrev nm_look_data : List Str := ["data"]
theorem sc_look_data : FnScope nm_look_data ["data"] (defScope s_look_data) := fnScope_by (by decide +kernel)
theorem ok_look_data (T : Txt K mg a) (F : DB K mg "look_data" s_look_data ["data"]) : Cal P w K mg base 1 "look_data" (spV 1 fun vs _ z => ∃ b, vs = [.byt b] ∧ z = .non) [] := by
  refine cal_of F sc_look_data (fun _ _ _ _ h => h.1) fun f cdv A outer s H vs Q E hr h => ⟨_, (pss_one (ps_if (pt_not (pt_val (pe_callB call_isi (by rfl) T.b_isinstance (by decide +kernel) (pa_cons (pv 0) (pa_cons (pe_bltn (v := .ty "bytes") (by rfl) T.b_bytes (by decide +kernel) rfl) pa_nil))))) (pss_one ps_never) pss_nil)), ?_⟩
  obtain ⟨_, _, ⟨b, rfl, rfl⟩, k⟩ := h
  exact s_when (et_not (et_B (ev_isiB (n := "bytes") (b := true) (ev_var rfl) (.byt b) (by decide +kernel)))) (fun h => absurd h (by decide)) fun _ => k
end
end Tl
end

section
set_option Elab.async false
set_option linter.all false
set_option maxRecDepth 100000
set_option maxHeartbeats 4000000
namespace Tl
open PySem PySem.Spec PyProof.Rows L2 Evl
open Tar (By)
open C8 (Cal Met Mak pe_c pe_mk pe_mt pe_mt0 pe_gc fnScope_by)
/-- the texts that are names here -/
def names : List (List Nat) := labels ++ symTs ++ lnkTs
def nameB (l : List Nat) : Bool := decide (1 ≤ l.length) && decide (l.length ≤ 20) && l.all fun c => decide (c ∈ ("abcdefghijklmnopqrstuvwxyz0123456789._-/" : Str).cps.toList)
theorem names_ok : ∀ l ∈ names, nameB l = true := by decide +kernel
def pathB (l : List Nat) : Bool := (Txt.split (sS l) "/").all fun p => !inV (.str p) [.str "", .str ".", .str ".."]
theorem labels_path : ∀ l ∈ labels, pathB l = true := by decide +kernel
theorem labels_split : ∀ l ∈ labels, (Txt.split (sS l) "/").length ≤ 10 := by decide +kernel
theorem names_len {l : List Nat} (h : l ∈ names) : 1 ≤ l.length ∧ l.length ≤ 20 := by
  have z := names_ok l h
  simp only [nameB, Bool.and_eq_true, decide_eq_true_eq] at z
  exact z.1
theorem labels_names {l : List Nat} (h : l ∈ labels) : l ∈ names := List.mem_append_left _ (List.mem_append_left _ h)
theorem symTs_names {l : List Nat} (h : l ∈ symTs) : l ∈ names := List.mem_append_left _ (List.mem_append_right _ h)
theorem lnkTs_names {l : List Nat} (h : l ∈ lnkTs) : l ∈ names := List.mem_append_right _ h
theorem sS_len (l : List Nat) : (sS l).length = l.length := SX.S_len l
section
variable {P : Program} {w : World} {K : PySem.W.Frag} {mg : Str → Option Value} {base : Heap} {a : Ad}
abbrev nm_is_name : List Str := ["thing", "sign"]
theorem sc_is_name : FnScope nm_is_name ["thing"] (defScope s_is_name) := fnScope_by (by decide +kernel)
abbrev rName : List V → Hp → V → Prop := fun vs _ z => ∃ l, vs = [vS l] ∧ l ∈ names ∧ z = .bl true
theorem ok_is_name (T : Txt K mg a) (F : DB K mg "is_name" s_is_name ["thing"]) : Cal P w K mg base 1 "is_name" (spV 1 rName) [] := by
  refine cal_of F sc_is_name (fun _ _ _ _ h => h.1) fun f cdv A outer s H vs Q E hr h => ⟨_, (pss_cons (ps_if (PW.pt (pw_or (pt_not (pt_val (pe_callB call_isi (by rfl) T.b_isinstance (by decide +kernel) (pa_cons (pv 0) (pa_cons (pe_bltn (v := .ty "str") (by rfl) T.b_str (by decide +kernel) rfl) pa_nil))))) (pw_or1 (pt_not (pt_chain op_le op_le pe_int (pe_callB call_len (by rfl) T.b_len PySem.boot_len (pa_cons (pv 0) pa_nil)) (pe_gc rfl T.g_MOST_NAME)))))) (pss_one (ps_ret pe_bl)) pss_nil)
    (pss_one (ps_ret (pe_callB (cr_all rfl) (by rfl) T.b_all (by decide +kernel) (pa_cons (pe_lc (own := [("sign", 1)]) (g := (gName 1)) (tt := tYes) rfl sc_is_name.nd (pi_str (pv 0)) (blkOk_by (own := [("sign", 1)]) (N := nm_is_name) (sc := defScope s_is_name) (by decide +kernel)) (fun _ _ _ _ _ => (pg_name (i := 1) sc_is_name.nd rfl (Or.inl rfl))) (fun _ _ _ _ _ => pts_nil) (fun _ _ _ _ _ => (pe_cmpR op_in_sign (pv 1) (pe_gc rfl T.g_LETTERS) (by rfl)))) pa_nil))))), ?_⟩
  obtain ⟨_, _, ⟨l, rfl, hl, rfl⟩, k⟩ := h
  obtain ⟨l1, l2⟩ := names_len hl
  have ok := names_ok l hl
  refine q_when (et_or (a := false) (b := false) (et_nT (et_B (ev_isiB (n := "str") (b := true) (ev_var rfl) (.base (.str _)) (by decide +kernel)))) fun _ => et_nT (et_is (et_chain ev_c (ev_lenS (ev_var rfl) (by rw [sS_len]; omega)) ev_c) ?_)) (fun h => absurd h (by decide)) fun _ H1 e => ?_
  · rw [sS_len]
    simp; omega
  · refine s_ret (v := .bl true) ?_ fun H2 e2 => k H2 (e.trans e2)
    refine ev_is (ev_allI (fun _ => true) (ei_str (ev_var rfl)) ?_ ex_str (fun x => rfl) fun i x H1 H2 hi he hy => ?_) (by simp)
    · show l.toArray.size ≤ _
      rw [List.size_toArray]; omega
    · obtain ⟨_, c, hc, rfl⟩ := hy
      refine ev_is (ev_op (ev_var rfl) ev_c (rv_val fun H3 _ Q q => ⟨c, _, rfl, rfl, q⟩)) ?_
      simp only [nameB, Bool.and_eq_true, decide_eq_true_eq, List.all_eq_true] at ok
      have hc' : l[i]? = some c := by
        have : l.toArray[i]? = some c := hc
        simpa using this
      rw [decide_eq_true (ok.2 c (List.mem_of_getElem? hc'))]
abbrev nm_is_path : List Str := ["thing", "part"]
theorem sc_is_path : FnScope nm_is_path ["thing"] (defScope s_is_path) := fnScope_by (by decide +kernel)
abbrev rPath : List V → Hp → V → Prop := fun vs _ z => ∃ l, vs = [vS l] ∧ l ∈ labels ∧ z = .bl true
theorem ok_is_path (T : Txt K mg a) (F : DB K mg "is_path" s_is_path ["thing"]) (c_is_name : Cal P w K mg base 1 "is_name" (spV 1 rName) []) : Cal P w K mg base 2 "is_path" (spV 1 rPath) [] := by
  refine cal_of F sc_is_path (fun _ _ _ _ h => h.1) fun f cdv A outer s H vs Q E hr h => ⟨_, (pss_one (ps_ret (pe_and (C8.pe_c c_is_name hr (by decide) rfl (pa_cons (pv 0) pa_nil)) (pe_one (pe_not (pe_callB (cr_any rfl) (by rfl) T.b_any (by decide +kernel) (pa_cons (pe_lc (own := [("part", 1)]) (g := (gName 1)) (tt := tYes) rfl sc_is_path.nd (pi_list (pe_split (pv 0) pe_str)) (blkOk_by (own := [("part", 1)]) (N := nm_is_path) (sc := defScope s_is_path) (by decide +kernel)) (fun _ _ _ _ _ => (pg_name (i := 1) sc_is_path.nd rfl (Or.inl rfl))) (fun _ _ _ _ _ => pts_nil) (fun _ _ _ _ _ => (pe_cmpR (in_seqK (K := K) rfl) (pv 1) (pe_tup (pa_cons pe_str (pa_cons pe_str (pa_cons pe_str pa_nil)))) (by rfl)))) pa_nil))))))), ?_⟩
  obtain ⟨_, _, ⟨l, rfl, hl, rfl⟩, k⟩ := h
  have l2 := names_len (labels_names hl)
  have ok := labels_path l hl
  have ok2 := labels_split l hl
  simp only [pathB, List.all_eq_true] at ok
  refine s_ret (v := .bl true) (ev_andV (a := true) (b := true) (ev_callV (ea_cons (ev_var rfl) ea_nil) rfl fun _ _ => ⟨l, rfl, labels_names hl, rfl⟩) fun _ => ev_nF ?_) k
  refine ev_anyX (ei_listN (el_m1 (ev_var rfl) ev_c fun H1 _ Q q => ⟨sS l, "/", rfl, rfl, by decide +kernel, by rw [sS_len, sizeLine_eq]; omega, q⟩)) (by rw [List.length_map]; omega) (fun x => rfl) fun x H1 hx e => ?_
  obtain ⟨p, hp, rfl⟩ := List.mem_map.1 hx
  refine ev_is (ev_inU (ev_var rfl) (eu_tup (ea_cons ev_c (ea_cons ev_c (ea_cons ev_c ea_nil))) (by decide)) rfl rfl) ?_
  have z := ok p hp
  simp only [Bool.not_eq_true'] at z
  rw [z]
abbrev nm_is_short : List Str := ["name"]
theorem sc_is_short : FnScope nm_is_short ["name"] (defScope s_is_short) := fnScope_by (by decide +kernel)
abbrev rShort : List V → Hp → V → Prop := fun vs _ z => ∃ l : List Nat, vs = [vS l] ∧ l.length ≤ 100 ∧ z = .bl true
theorem ok_is_short (T : Txt K mg a) (F : DB K mg "is_short" s_is_short ["name"]) : Cal P w K mg base 1 "is_short" (spV 1 rShort) [] := by
  refine cal_of F sc_is_short (fun _ _ _ _ h => h.1) fun f cdv A outer s H vs Q E hr h => ⟨_, (pss_one (ps_ret (pe_cmpR op_le (pe_callB call_len (by rfl) T.b_len PySem.boot_len (pa_cons (pv 0) pa_nil)) (pe_gc rfl T.g_MOST_SHORT) (nomark _)))), ?_⟩
  obtain ⟨_, _, ⟨l, rfl, hl, rfl⟩, k⟩ := h
  refine s_ret (ev_is (ev_op (ev_lenS (ev_var rfl) (by rw [sS_len]; omega)) ev_c (rv_I0 (g := fun i j => .bl (decide (i ≤ j))))) ?_) k
  rw [sS_len]
  simp; omega
abbrev nm_look_name : List Str := ["name"]
theorem sc_look_name : FnScope nm_look_name ["name"] (defScope s_look_name) := fnScope_by (by decide +kernel)
abbrev rLName : List V → Hp → V → Prop := fun vs _ z => ∃ l, vs = [vS l] ∧ l ∈ names ∧ z = .non
theorem ok_look_name (T : Txt K mg a) (F : DB K mg "look_name" s_look_name ["name"]) (c_is_name : Cal P w K mg base 1 "is_name" (spV 1 rName) []) : Cal P w K mg base 2 "look_name" (spV 1 rLName) [] := by
  refine cal_of F sc_look_name (fun _ _ _ _ h => h.1) fun f cdv A outer s H vs Q E hr h => ⟨_, (pss_one (ps_if (pt_not (pt_val (C8.pe_c c_is_name hr (by decide) rfl (pa_cons (pv 0) pa_nil)))) (pss_one ps_never) pss_nil)), ?_⟩
  obtain ⟨_, _, ⟨l, rfl, hl, rfl⟩, k⟩ := h
  exact s_when (et_nT (et_B (ev_callV (ea_cons (ev_var rfl) ea_nil) rfl fun _ _ => ⟨l, rfl, hl, rfl⟩))) (fun h => absurd h (by decide)) fun _ => k
abbrev nm_look_stamps : List Str := ["mode", "time"]
theorem sc_look_stamps : FnScope nm_look_stamps ["mode", "time"] (defScope s_look_stamps) := fnScope_by (by decide +kernel)
abbrev rLStamps : List V → Hp → V → Prop := fun vs _ z => ∃ m t : Nat, vs = [vN m, vN t] ∧ m ≤ 4095 ∧ t ≤ 8589934591 ∧ z = .non
theorem ok_look_stamps (T : Txt K mg a) (F : DB K mg "look_stamps" s_look_stamps ["mode", "time"]) (c_is_within : Cal P w K mg base 2 "is_within" (spV 3 rWithin) []) : Cal P w K mg base 3 "look_stamps" (spV 2 rLStamps) [] := by
  refine cal_of F sc_look_stamps (fun _ _ _ _ h => h.1) fun f cdv A outer s H vs Q E hr h => ⟨_, (pss_cons (ps_if (pt_not (pt_val (C8.pe_c c_is_within hr (by decide) rfl (pa_cons (pv 0) (pa_cons pe_int (pa_cons (pe_gc rfl T.g_MOST_MODE) pa_nil)))))) (pss_one ps_never) pss_nil)
    (pss_one (ps_if (pt_not (pt_val (C8.pe_c c_is_within hr (by decide) rfl (pa_cons (pv 1) (pa_cons pe_int (pa_cons (pe_gc rfl T.g_MOST_TIME) pa_nil)))))) (pss_one ps_never) pss_nil))), ?_⟩
  obtain ⟨_, _, ⟨m, t, rfl, hm, ht, rfl⟩, k⟩ := h
  have hm2 : V.bl true = .bl (decide ((0 : Int) ≤ (m : Nat)) && decide (((m : Nat) : Int) ≤ 4095)) := by congr 1; simp; omega
  have ht2 : V.bl true = .bl (decide ((0 : Int) ≤ (t : Nat)) && decide (((t : Nat) : Int) ≤ 8589934591)) := by congr 1; simp; omega
  refine q_when (et_nT (et_B (ev_callV (z := .bl true) (ea_cons (ev_var rfl) (ea_cons ev_c (ea_cons ev_c ea_nil))) rfl fun _ _ => ⟨_, _, _, rfl, hm2⟩))) (fun h => absurd h (by decide)) fun _ H1 e => ?_
  refine s_when (et_nT (et_B (ev_callV (z := .bl true) (ea_cons (ev_var rfl) (ea_cons ev_c (ea_cons ev_c ea_nil))) rfl fun _ _ => ⟨_, _, _, rfl, ht2⟩))) (fun h => absurd h (by decide)) fun _ H2 e2 => k H2 (e.trans e2)
abbrev nm_is_piece : List Str := ["thing"]
theorem sc_is_piece : FnScope nm_is_piece ["thing"] (defScope s_is_piece) := fnScope_by (by decide +kernel)
abbrev rPiece : List V → Hp → V → Prop := fun vs H z => ∃ p q, vs = [p] ∧ PcAt H p q ∧ 0 < q.2.length ∧ q.2.length ≤ 1000 ∧ z = .bl true
theorem ok_is_piece (T : Txt K mg a) (F : DB K mg "is_piece" s_is_piece ["thing"]) (c_is_integer : Cal P w K mg base 1 "is_integer" (spV 1 fun vs _ z => ∃ i, vs = [.int i] ∧ z = .bl true) []) : Cal P w K mg base 2 "is_piece" (spV 1 rPiece) [] := by
  refine cal_of F sc_is_piece (fun _ _ _ _ h => h.1) fun f cdv A outer s H vs Q E hr h => ⟨_, (pss_cons (ps_if (PW.pt (pw_or (pt_not (pt_val (pe_callB call_isi (by rfl) T.b_isinstance (by decide +kernel) (pa_cons (pv 0) (pa_cons (pe_bltn (v := .ty "tuple") (by rfl) T.b_tuple (by decide +kernel) rfl) pa_nil))))) (pw_or1 (pt_cmpR op_ne (pe_callB call_len (by rfl) T.b_len PySem.boot_len (pa_cons (pv 0) pa_nil)) pe_int (nomark _))))) (pss_one (ps_ret pe_bl)) pss_nil)
    (pss_one (ps_ret (pe_and (C8.pe_c c_is_integer hr (by decide) rfl (pa_cons (pe_ix ix_seq (pv 0) pe_int (fun _ _ => rfl)) pa_nil)) (pe_and (pe_callB call_isi (by rfl) T.b_isinstance (by decide +kernel) (pa_cons (pe_ix ix_seq (pv 0) pe_int (fun _ _ => rfl)) (pa_cons (pe_bltn (v := .ty "bytes") (by rfl) T.b_bytes (by decide +kernel) rfl) pa_nil))) (pe_one (pe_cmpR op_gt (pe_callB call_len (by rfl) T.b_len PySem.boot_len (pa_cons (pe_ix ix_seq (pv 0) pe_int (fun _ _ => rfl)) pa_nil)) pe_int (nomark _)))))))), ?_⟩
  obtain ⟨_, _, ⟨p, q, rfl, ⟨b, rfl, hb⟩, h1, h2, rfl⟩, k⟩ := h
  have sq : ∀ {H1}, Ex H H1 → SqT K H1 b [vN q.1, vB q.2] := fun e => st_of (e b _ hb)
  have hl : (q.2.toArray).size = q.2.length := List.size_toArray
  refine q_when (et_or (a := false) (b := false) (et_nT (et_B (ev_isiB (n := "tuple") (b := true) (ev_var rfl) (.base (.tup hb)) (by decide +kernel)))) fun _ => et_is (et_ne (ev_lenT (ev_var rfl) (sq (Ex.refl H))) ev_c rfl) (by simp)) (fun h => absurd h (by decide)) fun _ H1 e => ?_
  refine s_ret (ev_is (ev_andV (a := true) (b := true) (ev_callV (ea_cons (ev_op (ev_var rfl) ev_c (rv_ixt (i := _) (sq e) rfl)) ea_nil) rfl fun _ _ => ⟨_, rfl, rfl⟩) fun _ => ev_andV (a := true) (b := true) (ev_isiB (n := "bytes") (b := true) (ev_op (ev_var rfl) ev_c (rv_ixt (i := _) (sq e) rfl)) (.byt _) (by decide +kernel)) fun _ => ev_is (ev_op (ev_lenB (ev_op (ev_var rfl) ev_c (rv_ixt (i := _) (sq e) rfl)) (by rw [hl]; omega)) ev_c (rv_I0 (g := fun i j => .bl (decide (i > j))))) ?_) rfl) fun H2 e2 => k H2 (e.trans e2)
  rw [hl]
  simp; omega
abbrev nm_are_spans : List Str := ["size", "spans", "end", "offset", "length"]
theorem sc_are_spans : FnScope nm_are_spans ["size", "spans"] (defScope s_are_spans) := fnScope_by (by decide +kernel)
def spanB : Int → List (Int × Int) → Bool
  | _, [] => true
  | e, (o, l) :: r => decide (e < o) && decide (1 ≤ l) && spanB (o + l) r
def spEnd : Int → List (Int × Int) → Int
  | e, [] => e
  | _, (o, l) :: r => spEnd (o + l) r
theorem span_at : ∀ {S : List (Int × Int)} {e : Int} {i : Nat} {o l : Int}, spanB e S = true → S[i]? = some (o, l) → spEnd e (S.take i) < o ∧ 1 ≤ l
  | [], _, _, _, _, _, h => by simp at h
  | (o1, l1) :: r, e, 0, o, l, hb, h => by
    cases Option.some.inj h
    simp only [spanB, Bool.and_eq_true, decide_eq_true_eq] at hb
    exact hb.1
  | (o1, l1) :: r, e, i + 1, o, l, hb, h => by
    simp only [spanB, Bool.and_eq_true] at hb
    exact span_at (S := r) hb.2 h
theorem spEnd_snoc : ∀ {S : List (Int × Int)} {e : Int} {i : Nat} {o l : Int}, S[i]? = some (o, l) → spEnd e (S.take (i + 1)) = o + l
  | [], _, _, _, _, h => by simp at h
  | (o1, l1) :: r, e, 0, o, l, h => by cases Option.some.inj h; rfl
  | (o1, l1) :: r, e, i + 1, o, l, h => spEnd_snoc (S := r) (e := o1 + l1) h
def SpAt (H : Hp) (q : V) (s : Int × Int) : Prop := ∃ b, q = .ref b ∧ H b = some (.tup [.int s.1, .int s.2])
abbrev rSpans : List V → Hp → V → Prop := fun vs H z => ∃ (n : Int) (p : Addr) (qs : List V) (S : List (Int × Int)), vs = [.int n, .ref p] ∧ H p = some (.lst qs) ∧ Paired (SpAt H) qs S ∧ spanB (-1) S = true ∧ spEnd (-1) S ≤ n ∧ S.length ≤ 50 ∧ z = .bl true
theorem ok_are_spans (T : Txt K mg a) (F : DB K mg "are_spans" s_are_spans ["size", "spans"]) : Cal P w K mg base 1 "are_spans" (spV 2 rSpans) [] := by
  refine cal_of F sc_are_spans (fun _ _ _ _ h => h.1) fun f cdv A outer s H vs Q E hr h => ⟨_, (pss_cons (ps_set (i := 2) sc_are_spans.nd rfl (Or.inl rfl) (pe_un un_neg pe_int))
    (pss_cons (ps_for PassesOwn.never rfl (pi_list (pv 1)) (pg_tup rfl (pgs_cons (pg_name (i := 3) sc_are_spans.nd rfl (Or.inl rfl)) (pgs_cons (pg_name (i := 4) sc_are_spans.nd rfl (Or.inl rfl)) pgs_nil))) (pss_cons (ps_if (PW.pt (pw_or (pt_cmpR op_le (pv 3) (pv 2) (nomark _)) (pw_or1 (pt_cmpR op_lt (pv 4) pe_int (nomark _))))) (pss_one (ps_ret pe_bl)) pss_nil)
    (pss_one (ps_set (i := 2) sc_are_spans.nd rfl (Or.inl rfl) (pe_op op_add (pv 3) (pv 4))))))
    (pss_one (ps_ret (pe_and (pe_cmpR op_le (pv 2) (pv 0) (nomark _)) (pe_one (pe_cmpR op_le (pe_callB call_len (by rfl) T.b_len PySem.boot_len (pa_cons (pv 1) pa_nil)) (pe_gc rfl T.g_MOST_PIECES) (nomark _)))))))), ?_⟩
  obtain ⟨_, _, ⟨n, p, qs, S, rfl, hp, hq, hb, he, hn, rfl⟩, k⟩ := h
  have hlen := paired_len hq
  refine q_asg (v := .int (-1)) (ev_un ev_c ru_neg) fun H1 e1 => ?_
  refine q_forL (xs := qs) (ev_var rfl) (sq_of (e1 _ _ hp)) (fun i σ' H' => Ex H H' ∧ ∃ x y, σ' = [some (.int n), some (.ref p), some (.int (spEnd (-1) (S.take i))), x, y]) (fun H2 e2 => ⟨e1.trans e2, none, none, rfl⟩) (fun i σ' H' _ h => sq_of (h.1 _ _ hp)) ?_ ?_
  · rintro i x σ' H' hx ⟨e2, u, v, rfl⟩
    obtain ⟨⟨o, l⟩, hs, b, rfl, hbt⟩ := paired_get hq hx
    obtain ⟨h1, h2⟩ := span_at hb hs
    refine ⟨b, _, rfl, st_of (e2 _ _ hbt), rfl, .int o, [.int l], rfl, .int l, [], rfl, rfl, ?_⟩
    refine q_when (et_or (a := false) (b := false) (et_is (et_I (g := fun i j => decide (i ≤ j)) (ev_var rfl) (ev_var rfl)) (by simp; omega)) fun _ => et_is (et_I (g := fun i j => decide (i < j)) (ev_var rfl) ev_c) (by simp; omega)) (fun h => absurd h (by decide)) fun _ H3 e3 => ?_
    refine s_asg (ev_I (g := fun i j => i + j) (ev_var rfl) (ev_var rfl)) fun H4 e4 => ⟨(e2.trans e3).trans e4, some (.int o), some (.int l), ?_⟩
    rw [spEnd_snoc hs]
    rfl
  · rintro σ' H' ⟨e2, u, v, rfl⟩
    rw [hlen, List.take_length]
    refine s_ret (v := .bl true) (ev_is (ev_andV (a := true) (b := true) (ev_is (ev_op (ev_var rfl) (ev_var rfl) (rv_I0 (g := fun i j => .bl (decide (i ≤ j))))) ?_) fun _ => ev_is (ev_op (ev_lenL (ev_var rfl) (sq_of (e2 _ _ hp))) ev_c (rv_I0 (g := fun i j => .bl (decide (i ≤ j))))) ?_) rfl) fun H3 e3 => k H3 (e2.trans e3)
    · rw [decide_eq_true he]
    · rw [decide_eq_true (by omega)]
abbrev nm_are_pieces : List Str := ["size", "pieces", "offset", "data", "piece"]
theorem sc_are_pieces : FnScope nm_are_pieces ["size", "pieces"] (defScope s_are_pieces) := fnScope_by (by decide +kernel)
abbrev rPieces : List V → Hp → V → Prop := fun vs H z => ∃ (n : Int) (p : Addr) (qs : List V) (S : List (Nat × By)), vs = [.int n, .ref p] ∧ H p = some (.tup qs) ∧ PcsAt H qs S ∧ (∀ q ∈ S, 0 < q.2.length ∧ q.2.length ≤ 1000) ∧
  spanB (-1) (S.map fun q => ((q.1 : Int), (q.2.length : Int))) = true ∧ spEnd (-1) (S.map fun q => ((q.1 : Int), (q.2.length : Int))) ≤ n ∧ S.length ≤ 50 ∧ z = .bl true
theorem ok_are_pieces (T : Txt K mg a) (F : DB K mg "are_pieces" s_are_pieces ["size", "pieces"]) (c_is_piece : Cal P w K mg base 2 "is_piece" (spV 1 rPiece) []) (c_are_spans : Cal P w K mg base 1 "are_spans" (spV 2 rSpans) []) : Cal P w K mg base 3 "are_pieces" (spV 2 rPieces) [] := by
  refine cal_of F sc_are_pieces (fun _ _ _ _ h => h.1) fun f cdv A outer s H vs Q E hr h => ⟨_, (pss_cons (ps_if (pt_not (pt_val (pe_callB (cr_all rfl) (by rfl) T.b_all (by decide +kernel) (pa_cons (pe_lc (own := [("piece", 4)]) (g := (gName 4)) (tt := tYes) rfl sc_are_pieces.nd (pi_tup (pv 1)) (blkOk_by (own := [("piece", 4)]) (N := nm_are_pieces) (sc := defScope s_are_pieces) (by decide +kernel)) (fun _ _ _ _ _ => (pg_name (i := 4) sc_are_pieces.nd rfl (Or.inl rfl))) (fun _ _ _ _ _ => pts_nil) (fun _ _ _ _ _ => (C8.pe_c c_is_piece hr (by decide) rfl (pa_cons (pv 4) pa_nil)))) pa_nil)))) (pss_one (ps_ret pe_bl)) pss_nil)
    (pss_one (ps_ret (C8.pe_c c_are_spans hr (by decide) rfl (pa_cons (pv 0) (pa_cons (pe_lc (own := [("offset", 2), ("data", 3)]) (g := (gTup K 2 (gCons (gName 2) (gCons (gName 3) gNil)))) (tt := tYes) rfl sc_are_pieces.nd (pi_tup (pv 1)) (blkOk_by (own := [("offset", 2), ("data", 3)]) (N := nm_are_pieces) (sc := defScope s_are_pieces) (by decide +kernel)) (fun _ _ _ _ _ => (pg_tup rfl (pgs_cons (pg_name (i := 2) sc_are_pieces.nd rfl (Or.inl rfl)) (pgs_cons (pg_name (i := 3) sc_are_pieces.nd rfl (Or.inl rfl)) pgs_nil)))) (fun _ _ _ _ _ => pts_nil) (fun _ _ _ _ _ => (pe_tup (pa_cons (pv 2) (pa_cons (pe_callB (lenK (K := K) rfl) (by rfl) T.b_len PySem.boot_len (pa_cons (pv 3) pa_nil)) pa_nil))))) pa_nil)))))), ?_⟩
  obtain ⟨_, _, ⟨n, p, qs, S, rfl, hp, hq, hl, hb, he, hn, rfl⟩, k⟩ := h
  have hlen := paired_len hq
  have sq : ∀ {H1}, Ex H H1 → SqT K H1 p qs := fun e => st_of (e _ _ hp)
  refine q_when (et_nT (et_B (ev_allX (ei_tup (ev_var rfl) (sq (Ex.refl H))) (by omega) (fun x => rfl) fun x H1 hx e => ?_))) (fun h => absurd h (by decide)) fun _ H1 e1 => ?_
  · obtain ⟨i, hi⟩ := List.getElem?_of_mem hx
    obtain ⟨q, hs, hqa⟩ := paired_get hq hi
    have z := hl q (List.mem_of_getElem? hs)
    exact ev_callV (ea_cons (ev_var rfl) ea_nil) rfl fun H2 e2 => ⟨x, q, rfl, hqa.mono (a := a) (ExT.of (e.trans e2)), z.1, z.2, rfl⟩
  · refine s_ret (v := .bl true) (ev_callVP (eap_2n (ev_var rfl) (ep_lc (fun i y H' => ∃ q b, S[i]? = some q ∧ y = .ref b ∧ H' b = some (.tup [.int q.1, .int (q.2.length : Int)])) ?_ (ei_tup (ev_var rfl) (sq e1)) (by omega) ex_at ?_)) ?_) fun H2 e2 => k H2 (e1.trans e2)
    · rintro i v H1 H2 e ⟨q, b, h1, h2, h3⟩
      exact ⟨q, b, h1, h2, e _ _ h3 fun xs z => by cases z⟩
    · rintro i x H1 H2 hi e ⟨rfl, hx⟩
      obtain ⟨q, hs, hqa⟩ := paired_get hq hx
      obtain ⟨b, rfl, hbt⟩ := hqa.mono (a := a) (ExT.of (e1.trans e))
      have z := hl q (List.mem_of_getElem? hs)
      refine turn_pair hbt rfl (EvP.imp (EvU.p (eu_tup (ea_cons (ev_var rfl) (ea_cons (ev_lenB (l := q.2.toArray) (ev_var rfl) (by rw [List.size_toArray]; omega)) ea_nil)) (by simp))) ?_)
      rintro v H3 e3 ⟨c, rfl, hc⟩
      exact ⟨q, c, hs, rfl, by rw [hc, List.size_toArray]⟩
    · rintro vs H2 e2 ⟨p2, ys, rfl, hp2, hys, hit⟩
      refine ⟨rfl, n, p2, ys, _, rfl, hp2, paired_of (by rw [List.length_map, hys, hlen]) fun i v s h1 h2 => ?_, hb, he, by rw [List.length_map]; omega, rfl⟩
      obtain ⟨q, b, h3, rfl, h5⟩ := hit i v h1
      rw [List.getElem?_map, h3] at h2
      cases Option.some.inj h2
      exact ⟨b, rfl, h5⟩
end
end Tl
end

section
set_option Elab.async false
set_option linter.all false
set_option maxRecDepth 100000
set_option maxHeartbeats 4000000
/-! Classes made with keywords, with a star. -/
namespace Tl
open PySem PySem.Spec PyProof.Rows L2 Evl
theorem callWith_any {M : Model} {A : Around} {E : Value → Shared → Prop} {s : Shared} {f : Value} {first : List Value} {pos : Pos} {Q : Value → Shared → Prop} {R : Heap → Prop} {args : List (Bool × Sem Value)} {kws : List (Option Str × Sem Value)} (hst : args.any (·.1) = true)
    (hk : ∀ h, R h → ∃ k, (k = Keeper.frame ∨ k = Keeper.machine ∨ k = Keeper.boundFrame) ∧ PySem.W.Looks M h (keeperOf f) k)
    (h : wpAny M A (evalArgs f true args kws) (fun a s₁ => R s₁.heap ∧ wpAny M A (call f (first ++ a.pos) a.kw) Q E s₁) E s) : wpAny M A (callWith pos f first args kws) Q E s := by
  unfold callWith
  refine wpAny_bind (wpAny_holding (wpAny_mono h (fun a s₁ h₁ => wpAny_bind (wpAny_standAt ?_)) fun _ _ z => z))
  obtain ⟨k, hk2, L⟩ := hk _ h₁.1
  simp only [hst, Bool.true_or]
  refine wpAny_bind (L.here ?_)
  have back : ∀ {t : Sem Value}, wpAny M A t Q E s₁ → wpAny M A (t >>= fun r => holding [r] point >>= fun _ => pure r) Q E s₁ :=
    fun ht => wpAny_bind (wpAny_mono ht (fun r s₂ hr => wpAny_bind (wpAny_holding (wpAny_point (wpAny_pure hr)))) fun _ _ z => z)
  have marked : ∀ mk : Value, wpAny M A (callMarked mk f (first ++ a.pos) a.kw) Q E s₁ := fun mk => by
    unfold callMarked
    exact Calls.wpAny_keep h₁.2
  rcases hk2 with rfl | rfl | rfl <;> dsimp only <;> (first | exact back (marked _) | exact back (wpAny_operating h₁.2))
/-- a promise of an __init__ by its positional and its keyword values -/
abbrev SpI := List V → List V → Hp → VK → Prop
def IniR (P : Program) (w : World) (K : PySem.W.Frag) (mg : Str → Option Value) (base : Heap) (k : Nat) (f : Addr) (ks : List Str) (sp : SpI) : Prop :=
  ∀ (A : Around) (outer : List Env) (s : Shared) (H : Hp) (us ws : List Value) (vs zs : List V) (Q : VK) (E : XK), Room k A → Env0 P w K mg base A outer s H → Vals vs us → Vals zs ws → zs.length = ks.length → sp vs zs H Q →
    codeAny (model P w) A (.call (.ref f) ⟨us, ks.zip ws⟩) (CR C8.CX0 outer P w H s Q E) s
structure MakI (P : Program) (w : World) (K : PySem.W.Frag) (mg : Str → Option Value) (base : Heap) (k : Nat) (x : Str) (C : Addr) (ks : List Str) (sp : SpI) : Prop where
  ex : ∃ f, Mk K C f ∧ mg x = some (.ref C) ∧ IniR P w K mg base k f ks sp
def tMakeI (C : Addr) (m : Nat) (sp : SpI) (t tk : TA) : TE := fun σ H Q => t σ H fun vs H1 => tk σ H1 fun zs H2 => zs.length = m ∧ ∀ x dx, H2 x = none → H2 dx = none → dx ≠ x →
  sp (.ref x :: vs) zs (upd (upd H2 dx (.own x)) x (.ins C dx [])) (fun v H3 => v = .non ∧ Q (.ref x) H3)
section
variable {X : Cx} {k j : Nat} {f C : Addr} {ks : List Str} {sp : SpI} {x : Str} {p pos : Pos} {e : Expr} {es : List Expr} {kws : List Keyword} {t tk : TA}
theorem run_makeI {pins : List (Addr × Obj)} {σ : L2.St} {H : Hp} {s : Shared} {Q : VK} {us ws : List Value} {vs zs : List V} (M : Mk X.K C f) (F : IniR X.prog X.w X.K X.mg X.base k f ks sp) (hr : Room (k + 1) X.A) (I : Inv X pins σ H s) (r : Vals vs us) (rz : Vals zs ws) (l2 : zs.length = ks.length)
    (h : ∀ x dx, H x = none → H dx = none → dx ≠ x → sp (.ref x :: vs) zs (upd (upd H dx (.own x)) x (.ins C dx [])) (fun v H2 => v = .non ∧ Q (.ref x) H2)) :
    wpAny (model X.prog X.w) X.A (call (.ref C) us (ks.zip ws)) (EP X pins σ Q) X.xe s := by
  have hq := h (s.heap.objs.size + 1) s.heap.objs.size (I.hok.fresh (Nat.le_succ _)) (I.hok.fresh (Nat.le_refl _)) (Nat.ne_of_lt (Nat.lt_succ_self _))
  have I2 := Inv.made (C := C) I
  have r1 : Vals (V.ref (s.heap.objs.size + 1) :: vs) (Value.ref (s.heap.objs.size + 1) :: us) := .cons rfl r
  refine wpAny_call (make_map (f := f) I.kIn M.makes M.init (beq_iff_eq.mp M.fn) (codeAny_mono (F _ X.stack _ _ (Value.ref (s.heap.objs.size + 1) :: us) ws _ zs _ C8.E0 (hr.make C us (ks.zip ws)) (I2.env0.make C us (ks.zip ws)) r1 rz l2 hq) fun r s' hq' => ?_))
  cases r with
  | error e => exact False.elim hq'
  | ok fl =>
    cases fl with
    | ret u =>
      obtain ⟨v, H', I3, rv, ev, q3⟩ := I2.after hq'
      subst ev
      exact ⟨rv, ⟨V.ref (s.heap.objs.size + 1), H', I3, rfl, q3⟩⟩
    | next => exact False.elim hq'
    | brk => exact False.elim hq'
    | cont => exact False.elim hq'
/-- C(e, .., k = v, ..) -/
theorem pe_mki (c : MakI X.prog X.w X.K X.mg X.base k x C ks sp) (hr : Room j X.A) (hk : k + 1 ≤ j) (hg : Gl X x) (ha : PA X (e :: es) t) (hkw : PK X kws tk)
    (hall : (backToKw pos (keywordEach kws X.env)).all (·.1.isSome) = true := by rfl) (hks : (backToKw pos (keywordEach kws X.env)).filterMap (·.1) = ks := by rfl) (hdb : (x == ("__debug__" : Str)) = false := by decide)
    (he : starEach (e :: es) X.env = (false, eval e X.env) :: starEach es X.env := by rfl) (hpl : ((backTo pos (starEach (e :: es) X.env)).any (·.1) || (backToKw pos (keywordEach kws X.env)).any (·.1.isNone)) = false := by rfl) :
    PE X (.Call (.Name x p) (e :: es) kws pos) (tMakeI C ks.length sp t tk) := by
  obtain ⟨f, M, hm, F⟩ := c.ex
  refine ⟨fun pins s σ H Q I h => ?_⟩
  refine wpAny_Call_Name_kw (ld_glob I hg hm ?_ hdb)
  refine PySem.W.callWith_KW (h₀ := X.base) I.ok.mod.kin M.kp hall (thn (ha.run pos pins s σ H _ I h) fun us s1 ⟨vs, H1, I1, r, q⟩ => ?_) hpl he
  refine thn (hkw.run pos pins s1 σ H1 _ I1 q) fun ws s2 ⟨zs, H2, I2, rz, l2, q2⟩ => ⟨I2.kIn, ?_⟩
  rw [hks]
  exact run_makeI M F (hr.mono hk) I2 r rz l2 q2
/-- C(e, .., *y, k = v, ..) -/
theorem pe_mkiS (c : MakI X.prog X.w X.K X.mg X.base k x C ks sp) (hr : Room j X.A) (hk : k + 1 ≤ j) (hg : Gl X x) (ha : PA X (e :: es) t) (hkw : PK X kws tk)
    (hall : (backToKw pos (keywordEach kws X.env)).all (·.1.isSome) = true := by rfl) (hks : (backToKw pos (keywordEach kws X.env)).filterMap (·.1) = ks := by rfl) (hdb : (x == ("__debug__" : Str)) = false := by decide)
    (he : starEach (e :: es) X.env = (false, eval e X.env) :: starEach es X.env := by rfl) (hst : (backTo pos (starEach es X.env)).any (·.1) = true := by rfl) :
    PE X (.Call (.Name x p) (e :: es) kws pos) (tMakeI C ks.length sp t tk) := by
  obtain ⟨f, M, hm, F⟩ := c.ex
  refine ⟨fun pins s σ H Q I h => ?_⟩
  refine wpAny_Call_Name_kw (ld_glob I hg hm ?_ hdb)
  have run := ha.run pos pins s σ H _ I h
  rw [he] at run ⊢
  refine callWith_any (R := X.K.In) (by show (false || (backTo pos (starEach es X.env)).any (·.1)) = true; rw [hst]; rfl) (PySem.W.keeps_K M.kp) (PySem.evalArgs_kw hall (thn run fun us s1 ⟨vs, H1, I1, r, q⟩ => ?_))
  refine thn (hkw.run pos pins s1 σ H1 _ I1 q) fun ws s2 ⟨zs, H2, I2, rz, l2, q2⟩ => ⟨I2.kIn, ?_⟩
  rw [hks]
  exact run_makeI M F (hr.mono hk) I2 r rz l2 q2
/-- C() -/
theorem pe_mk0 {dvs : List V} {sp : Sp} (c : C8.Mak X.prog X.w X.K X.mg X.base k x C sp dvs) (hr : Room j X.A) (hk : k + 1 ≤ j) (hg : Gl X x) (hdb : (x == ("__debug__" : Str)) = false := by decide) : PE X (.Call (.Name x p) [] [] pos) (tMake C sp dvs C8.E0 tNil) := by
  obtain ⟨f, fd, ps, ds, M, F, hm, hb, hd⟩ := c.ex
  exact pe_make0 M F (hr.mono hk) hg hm hb hd C8.pass0 hdb
end
end Tl
end

section
set_option Elab.async false
set_option linter.all false
set_option maxRecDepth 100000
set_option maxHeartbeats 4000000
namespace Tl
open PySem PySem.Spec PyProof.Rows L2 Evl
open Tar (By)
open C8 (Cal Met Mak pe_c pe_mk pe_mt pe_mt0 pe_gc fnScope_by)
section
variable {P : Program} {w : World} {K : PySem.W.Frag} {mg : Str → Option Value} {base : Heap} {a : Ad}
abbrev nm_Member___init : List Str := ["self", "name", "mode", "time", "more"]
theorem sc_Member___init : FnScope nm_Member___init ["self", "name", "mode", "time", "more"] (defScope s_Member___init) := fnScope_by (by decide +kernel)
/-- Member.__init__ by place -/
def spMem (K : PySem.W.Frag) : Sp := fun vs H Q _ => ∃ (x dx C p : Addr) (nm mo ti kd : V) (u : Value) (rest : List V), vs = [.ref x, nm, mo, ti, .ref p] ∧ H x = some (.ins C dx []) ∧ H p = some (.tup rest) ∧ ClF K C ["name", "mode", "time", "key"] ∧ Con K C "KIND" kd u ∧ rest.length ≤ 10 ∧
  ∀ key H', ExB x H H' → H' x = some (.ins C dx [("name", nm), ("mode", mo), ("time", ti), ("key", .ref key)]) → H' key = some (.tup (kd :: nm :: mo :: ti :: rest)) → Q .non H'
theorem body_Member (f : Addr) (cdv : Value) (A : Around) (outer : List Env) (s : Shared) (H : Hp) (vs : List V) (Q : VK) (E : XK) (hr : Room 1 (A.deeper (envOfC "Member.__init__" (defScope s_Member___init) s.heap.objs.size f cdv))) (h : spMem K vs H Q E) :
    ∃ t, PSs (cxOf C8.CX0 P w K mg base nm_Member___init "Member.__init__" (defScope s_Member___init) f cdv A outer s H E) (C8.fnBody s_Member___init) t ∧ t { nx := fun _ H' => Q .non H', rt := Q } (L2.start nm_Member___init vs) H := by
  refine ⟨_, (pss_cons (ps_fld (pv 0) (pv 1) rfl)
    (pss_cons (ps_fld (pv 0) (pv 2) rfl)
    (pss_cons (ps_fld (pv 0) (pv 3) rfl)
    (pss_one (ps_fld (pv 0) (pe_tup (pa_cons (pe_con (pv 0) rfl) (pa_cons (pv 1) (pa_cons (pv 2) (pa_cons (pv 3) (StX.pa_star (pv 4) pa_nil)))))) rfl))))), ?_⟩
  obtain ⟨x, dx, C, p, nm, mo, ti, kd, u, rest, rfl, hx, hp, hC, hk, hl, k⟩ := h
  have n1 := hC.no "name" (by decide)
  have n2 := hC.no "mode" (by decide)
  have n3 := hC.no "time" (by decide)
  have n4 := hC.no "key" (by decide)
  have px : p ≠ x := fun q => by rw [q, hx] at hp; cases hp
  refine q_fld (ev_var rfl) (ev_var rfl) hx hC.cl n1 (by simp) fun H1 e1 => ?_
  refine q_fld (ev_var rfl) (ev_var rfl) upd_same hC.cl n2 (show (1 : Nat) < 1000 by decide) fun H2 e2 => ?_
  refine q_fld (ev_var rfl) (ev_var rfl) upd_same hC.cl n3 (show (2 : Nat) < 1000 by decide) fun H3 e3 => ?_
  have b3 : ExB x H (upd H3 x (.ins C dx (putF "time" ti (putF "mode" mo (putF "name" nm []))))) := (((((ExB.of e1).trans ExB.put).trans (ExB.of e2)).trans ExB.put).trans (ExB.of e3)).trans ExB.put
  refine s_fldU (eu_tup (ea_cons (ev_con (ev_var rfl) upd_same hC.cl hk rfl) (ea_cons (ev_var rfl) (ea_cons (ev_var rfl) (ea_cons (ev_var rfl) (ea_star (ev_var rfl) (st_of (b3 _ _ hp px))))))) (by simp; omega)) (ev_var rfl) upd_same hC.cl n4 (show (3 : Nat) < 1000 by decide) fun q H4 hq e4 h4 => ?_
  refine k q _ ((b3.trans (ExB.of e4)).trans ExB.put) upd_same ?_
  rw [upd_ne (fun z => by rw [z, upd_same] at hq; cases hq)]
  exact h4
theorem bind_Member (doc pm : Value) (an : Option Addr) (cdv ct : Value) : ∀ us rest : List Value, us.length = 4 → bindArgs (PySem.W.fnOf "__init__" "Member.__init__" (C8.fnArgs s_Member___init) (C8.fnBody s_Member___init) (C8.fnScope s_Member___init) .none .none doc pm an cdv ct) ⟨us ++ rest, []⟩ =
    (newTuple rest >>= fun t => pure ((["self", "name", "mode", "time"] : List Str).zip us ++ [(("more" : Str), t)]))
  | [a, b, c, d], [], _ => by kernel_rfl
  | [a, b, c, d], r :: rs, _ => by kernel_rfl
structure MiniF (K : PySem.W.Frag) (f2 : Addr) : Prop where
  ex : ∃ (oc : Value) (od : Option Addr) (doc pm : Value) (an : Option Addr) (cdv ct : Value) (osl : Array (Option Value)),
    K.lookup f2 = some ⟨oc, od, .func (PySem.W.fnOf "__init__" "Member.__init__" (C8.fnArgs s_Member___init) (C8.fnBody s_Member___init) (C8.fnScope s_Member___init) .none .none doc pm an cdv ct), osl⟩ ∧ PySem.W.codeIn K cdv "Member.__init__" = true
def stM (K : PySem.W.Frag) : Sp := fun vs H Q E => ∃ ws rest, vs = ws ++ rest ∧ ws.length = (["self", "name", "mode", "time"] : List Str).length ∧ rest.length ≤ sizeLine ∧ ∀ p, H p = Option.none → spMem K (ws ++ [V.ref p]) (upd H p (.tup rest)) Q E
theorem ok_Member_init {f2 : Addr} (F : MiniF K f2) : FnR P w K mg base C8.CX0 2 f2 (stM K) := by
  obtain ⟨oc, od, doc, pm, an, cdv, ct, osl, lk, hcd⟩ := F.ex
  exact StX.fn_star (ps := ["self", "name", "mode", "time"]) (pv := "more") lk hcd sc_Member___init StX.cxUp_none (fun us rest h => bind_Member _ _ _ _ _ us rest h) fun A outer s H vs Q E hr h => body_Member f2 cdv A outer s H vs Q E hr h
theorem use_Member {x dx C : Addr} {H : Hp} {nm mo ti kd : V} {u : Value} {rest : List V} {Q : VK} {E : XK} (hx : H x = some (.ins C dx [])) (hC : ClF K C ["name", "mode", "time", "key"]) (hk : Con K C "KIND" kd u) (hl : rest.length ≤ 10)
    (k : ∀ key H', ExB x H H' → H' x = some (.ins C dx [("name", nm), ("mode", mo), ("time", ti), ("key", .ref key)]) → H' key = some (.tup (kd :: nm :: mo :: ti :: rest)) → Q .non H') : stM K (.ref x :: nm :: mo :: ti :: rest) H Q E := by
  refine ⟨[.ref x, nm, mo, ti], rest, rfl, rfl, by rw [sizeLine_eq]; omega, fun p hp => ?_⟩
  have px : x ≠ p := fun q => by rw [q, hp] at hx; cases hx
  refine ⟨x, dx, C, p, nm, mo, ti, kd, u, rest, rfl, by rw [upd_ne px]; exact hx, upd_same, hC, hk, hl, fun key H' e h1 h2 => k key H' (fun b o hb n => e b o ?_ n) h1 h2⟩
  rw [upd_ne (fun q => by rw [q, hp] at hb; cases hb)]
  exact hb
theorem bnd_pure {fd : FuncData} {args : Args} {ps : List Str} {A : Around} {outer : List Env} {s : Shared} {H : Hp} {E : XK} {us : List Value} {vs : List V} (e0 : Env0 P w K mg base A outer s H) (hb : bindArgs fd args = pure (ps.zip us)) (r : Vals vs us) (hl : vs.length = ps.length) :
    StX.Bnd C8.CX0 P w K mg base fd args ps A outer s H E (fun vs2 H2 => vs2 = vs ∧ H2 = H) := fun A' Er Q h => by
  rw [hb]
  exact wpAny_pure (h s H vs us e0 Un.refl rfl (fun _ _ z => z) r hl ⟨rfl, rfl⟩)
structure SupD (P : Program) (K : PySem.W.Frag) (mg : Str → Option Value) (qual : Str) (st : Stmt) (D f2 f : Addr) : Prop where
  ex : ∃ (cc : Addr) (oc : Value) (od : Option Addr) (kD : Addr) (doc pm : Value) (an : Option Addr) (cdv ct : Value) (osl : Array (Option Value)),
    K.lookup f = some ⟨oc, od, .func (PySem.W.ksFn "__init__" qual (C8.fnArgs st) (C8.fnBody st) (C8.fnScope st) .none (.ref kD) doc pm an cdv ct cc), osl⟩ ∧ PySem.W.codeIn K cdv qual = true ∧ SupC P K mg (C8.fnScope st) (C8.fnArgs st) D f2 cc cdv "self"
abbrev nm_File___init : List Str := ["self", "name", "data", "mode", "time"]
theorem sc_File___init : FnScopeS nm_File___init ["self", "name", "data", "mode", "time"] (defScope s_File___init) := fnScopeS_by (by decide +kernel)
theorem bind_File (kD : Addr) (doc pm : Value) (an : Option Addr) (cdv ct : Value) (cc : Addr) (x n d m t : Value) : bindArgs (PySem.W.ksFn "__init__" "File.__init__" (C8.fnArgs s_File___init) (C8.fnBody s_File___init) (C8.fnScope s_File___init) .none (.ref kD) doc pm an cdv ct cc) ⟨[x, n, d], (["mode", "time"] : List Str).zip [m, t]⟩ =
    pure ((["self", "name", "data", "mode", "time"] : List Str).zip [x, n, d, m, t]) := by kernel_rfl
def spFile (a : Ad) : SpI := fun vs zs H Q => ∃ (x dx : Addr) (nm : List Nat) (mo ti : Nat) (d : By), vs = [.ref x, vS nm, vB d] ∧ zs = [vN mo, vN ti] ∧ H x = some (.ins a.cFile dx []) ∧ Mem.Base nm mo ti ∧ d.length ≤ 8 ∧ ∀ H', ExB x H H' → MemAt a H' x (.fil nm mo ti d) → Q .non H'
theorem ok_File_init {f f2 : Addr} (T : Txt K mg a) (M : Mcl K a) (F : SupD P K mg "File.__init__" s_File___init a.cFile f2 f) (F2 : MiniF K f2) (c_look_name : Cal P w K mg base 2 "look_name" (spV 1 rLName) []) (c_look_stamps : Cal P w K mg base 3 "look_stamps" (spV 2 rLStamps) []) :
    IniR P w K mg base 4 f ["mode", "time"] (spFile a) := by
  obtain ⟨cc, oc, od, kD, doc, pm, an, cdv, ct, osl, lk, hcd, C⟩ := F.ex
  intro A outer s H us ws vs zs Q E hr e0 r rz hl h
  obtain ⟨x, dx, nm, mo, ti, d, rfl, rfl, hx, hB, hd, k⟩ := h
  obtain ⟨x', n', d', rfl, r1, r2, r3⟩ : ∃ u1 u2 u3, us = [u1, u2, u3] ∧ RelV (.ref x) u1 ∧ RelV (vS nm) u2 ∧ RelV (vB d) u3 := by
    cases r with | cons a1 r => cases r with | cons a2 r => cases r with | cons a3 r => cases r; exact ⟨_, _, _, rfl, a1, a2, a3⟩
  obtain ⟨m', t', rfl, r4, r5⟩ := vals2 rz
  refine run_sup (pre := (C8.fnBody s_File___init).take 3) (post := (C8.fnBody s_File___init).drop 4) lk hcd sc_File___init rfl C ((ok_Member_init F2).mono (by decide : 2 ≤ 3)) hr e0 (bnd_pure e0 (bind_File ..) (.cons r1 (.cons r2 (.cons r3 (.cons r4 (.cons r5 .nil))))) rfl) (fun env => rfl) (fun env => rfl) (fun env => ⟨_, rfl⟩) fun s2 H2 vs2 ev hr => ?_
  obtain ⟨rfl, rfl⟩ := ev
  refine ⟨_, _, _, (pss_cons (ps_expr (C8.pe_c c_look_name hr (by decide) rfl (pa_cons (pv 1) pa_nil)))
    (pss_cons (ps_if (PW.pt (pw_or (pt_not (pt_val (pe_callB call_isi (by rfl) T.b_isinstance (by decide +kernel) (pa_cons (pv 2) (pa_cons (pe_bltn (v := .ty "bytes") (by rfl) T.b_bytes (by decide +kernel) rfl) pa_nil))))) (pw_or1 (pt_cmpR op_gt (pe_callB call_len (by rfl) T.b_len PySem.boot_len (pa_cons (pv 2) pa_nil)) (pe_gc rfl T.g_MOST_DATA) (nomark _))))) (pss_one ps_never) pss_nil)
    (pss_one (ps_expr (C8.pe_c c_look_stamps hr (by decide) rfl (pa_cons (pv 3) (pa_cons (pv 4) pa_nil))))))), (pa_cons (pv 1) (pa_cons (pv 3) (pa_cons (pv 4) (pa_cons (pv 2) pa_nil)))), (pss_one (ps_fld (pv 0) (pv 2) rfl)), ?_⟩
  refine q_drop (ev_callV (ea_cons (ev_var rfl) ea_nil) rfl fun _ _ => ⟨nm, rfl, labels_names hB.nm, rfl⟩) fun H3 e1 => ?_
  refine q_when (et_or (a := false) (b := false) (et_nT (et_B (ev_isiB (n := "bytes") (b := true) (ev_var rfl) (.byt d.toArray) (by decide +kernel)))) fun _ => et_is (et_I (g := fun i j => decide (j < i)) (ev_lenB (l := d.toArray) (ev_var rfl) (by rw [List.size_toArray]; omega)) ev_c) (by rw [List.size_toArray]; simp; omega)) (fun h => absurd h (by decide)) fun _ H4 e2 => ?_
  refine s_drop (ev_callV (ea_cons (ev_var rfl) (ea_cons (ev_var rfl) ea_nil)) rfl fun _ _ => ⟨mo, ti, rfl, hB.mo, hB.ti, rfl⟩) fun H5 e3 => ?_
  have e5 := (e1.trans e2).trans e3
  refine ⟨x, dx, [], rfl, e5 _ _ hx, fun q hq => ?_⟩
  have hxq : x ≠ q := fun z => by rw [← z, e5 _ _ hx] at hq; cases hq
  refine (show EvA _ _ _ [vS nm, vN mo, vN ti, vB d] from ea_cons (ev_var rfl) (ea_cons (ev_var rfl) (ea_cons (ev_var rfl) (ea_cons (ev_var rfl) ea_nil)))) _ (Ex.refl _) _ fun H6 e6 => ⟨e6 q _ upd_same, ?_⟩
  have hx6 : H6 x = some (.ins a.cFile dx []) := e6 _ _ (by rw [upd_ne hxq]; exact e5 _ _ hx)
  obtain ⟨u, hu⟩ := M.kind (.fil nm mo ti d)
  refine use_Member (rest := [vB d]) hx6 ⟨M.file.cl, fun f hf => M.file.no f (List.mem_of_mem_take (i := 4) hf)⟩ hu (by simp) fun key H7 b7 h1 h2 => ?_
  have b : ExB x H2 H7 := (ExB.of ((e5.trans (Ex.new hq)).trans e6)).trans b7
  refine s_fld (ev_var rfl) (ev_var rfl) h1 M.file.cl (M.file.no _ (by decide)) (show (4 : Nat) < 1000 by decide) fun H8 e8 => ?_
  refine k _ ((b.trans (ExB.of e8)).trans ExB.put) ⟨dx, key, 0, upd_same, ?_, trivial⟩
  rw [upd_ne (fun z => by rw [z, h1] at h2; cases h2)]
  exact e8 _ _ h2
abbrev nm_Directory___init : List Str := ["self", "name", "mode", "time"]
theorem sc_Directory___init : FnScopeS nm_Directory___init ["self", "name", "mode", "time"] (defScope s_Directory___init) := fnScopeS_by (by decide +kernel)
theorem bind_Directory (kD : Addr) (doc pm : Value) (an : Option Addr) (cdv ct : Value) (cc : Addr) (x n m t : Value) : bindArgs (PySem.W.ksFn "__init__" "Directory.__init__" (C8.fnArgs s_Directory___init) (C8.fnBody s_Directory___init) (C8.fnScope s_Directory___init) .none (.ref kD) doc pm an cdv ct cc) ⟨[x, n], (["mode", "time"] : List Str).zip [m, t]⟩ =
    pure ((["self", "name", "mode", "time"] : List Str).zip [x, n, m, t]) := by kernel_rfl
def spDirectory (a : Ad) : SpI := fun vs zs H Q => ∃ (x dx : Addr) (nm : List Nat) (mo ti : Nat) , vs = [.ref x, vS nm] ∧ zs = [vN mo, vN ti] ∧ H x = some (.ins a.cDir dx []) ∧ Mem.Base nm mo ti ∧ ∀ H', ExB x H H' → MemAt a H' x (.dir nm mo ti) → Q .non H'
theorem ok_Directory_init {f f2 : Addr} (T : Txt K mg a) (M : Mcl K a) (F : SupD P K mg "Directory.__init__" s_Directory___init a.cDir f2 f) (F2 : MiniF K f2) (c_look_name : Cal P w K mg base 2 "look_name" (spV 1 rLName) []) (c_look_stamps : Cal P w K mg base 3 "look_stamps" (spV 2 rLStamps) []) :
    IniR P w K mg base 4 f ["mode", "time"] (spDirectory a) := by
  obtain ⟨cc, oc, od, kD, doc, pm, an, cdv, ct, osl, lk, hcd, C⟩ := F.ex
  intro A outer s H us ws vs zs Q E hr e0 r rz hl h
  obtain ⟨x, dx, nm, mo, ti, rfl, rfl, hx, hB, k⟩ := h
  obtain ⟨x', n', rfl, r1, r2⟩ := vals2 r
  obtain ⟨m', t', rfl, r4, r5⟩ := vals2 rz
  refine run_sup (pre := (C8.fnBody s_Directory___init).take 2) (post := (C8.fnBody s_Directory___init).drop 3) lk hcd sc_Directory___init rfl C ((ok_Member_init F2).mono (by decide : 2 ≤ 3)) hr e0 (bnd_pure e0 (bind_Directory ..) (.cons r1 (.cons r2 (.cons r4 (.cons r5 .nil)))) rfl) (fun env => rfl) (fun env => rfl) (fun env => ⟨_, rfl⟩) fun s2 H2 vs2 ev hr => ?_
  obtain ⟨rfl, rfl⟩ := ev
  refine ⟨_, _, _, (pss_cons (ps_expr (C8.pe_c c_look_name hr (by decide) rfl (pa_cons (pv 1) pa_nil)))
    (pss_one (ps_expr (C8.pe_c c_look_stamps hr (by decide) rfl (pa_cons (pv 2) (pa_cons (pv 3) pa_nil)))))), (pa_cons (pv 1) (pa_cons (pv 2) (pa_cons (pv 3) pa_nil))), pss_nil, ?_⟩
  refine q_drop (ev_callV (ea_cons (ev_var rfl) ea_nil) rfl fun _ _ => ⟨nm, rfl, labels_names hB.nm, rfl⟩) fun H4 e1 => ?_
  have e2 := Ex.refl H4
  refine s_drop (ev_callV (ea_cons (ev_var rfl) (ea_cons (ev_var rfl) ea_nil)) rfl fun _ _ => ⟨mo, ti, rfl, hB.mo, hB.ti, rfl⟩) fun H5 e3 => ?_
  have e5 := (e1.trans e2).trans e3
  refine ⟨x, dx, [], rfl, e5 _ _ hx, fun q hq => ?_⟩
  have hxq : x ≠ q := fun z => by rw [← z, e5 _ _ hx] at hq; cases hq
  refine (show EvA _ _ _ [vS nm, vN mo, vN ti] from ea_cons (ev_var rfl) (ea_cons (ev_var rfl) (ea_cons (ev_var rfl) ea_nil))) _ (Ex.refl _) _ fun H6 e6 => ⟨e6 q _ upd_same, ?_⟩
  have hx6 : H6 x = some (.ins a.cDir dx []) := e6 _ _ (by rw [upd_ne hxq]; exact e5 _ _ hx)
  obtain ⟨u, hu⟩ := M.kind (.dir nm mo ti)
  refine use_Member (rest := []) hx6 ⟨M.dir.cl, fun f hf => M.dir.no f hf⟩ hu (by simp) fun key H7 b7 h1 h2 => ?_
  have b : ExB x H2 H7 := (ExB.of ((e5.trans (Ex.new hq)).trans e6)).trans b7
  exact k _ b ⟨dx, key, 0, h1, h2, trivial⟩
abbrev nm_Symlink___init : List Str := ["self", "name", "target", "mode", "time"]
theorem sc_Symlink___init : FnScopeS nm_Symlink___init ["self", "name", "target", "mode", "time"] (defScope s_Symlink___init) := fnScopeS_by (by decide +kernel)
theorem bind_Symlink (kD : Addr) (doc pm : Value) (an : Option Addr) (cdv ct : Value) (cc : Addr) (x n d m t : Value) : bindArgs (PySem.W.ksFn "__init__" "Symlink.__init__" (C8.fnArgs s_Symlink___init) (C8.fnBody s_Symlink___init) (C8.fnScope s_Symlink___init) .none (.ref kD) doc pm an cdv ct cc) ⟨[x, n, d], (["mode", "time"] : List Str).zip [m, t]⟩ =
    pure ((["self", "name", "target", "mode", "time"] : List Str).zip [x, n, d, m, t]) := by kernel_rfl
def spSymlink (a : Ad) : SpI := fun vs zs H Q => ∃ (x dx : Addr) (nm : List Nat) (mo ti : Nat) (d : List Nat), vs = [.ref x, vS nm, vS d] ∧ zs = [vN mo, vN ti] ∧ H x = some (.ins a.cSym dx []) ∧ Mem.Base nm mo ti ∧ d ∈ symTs ∧ ∀ H', ExB x H H' → MemAt a H' x (.sym nm mo ti d) → Q .non H'
theorem ok_Symlink_init {f f2 : Addr} (T : Txt K mg a) (M : Mcl K a) (F : SupD P K mg "Symlink.__init__" s_Symlink___init a.cSym f2 f) (F2 : MiniF K f2) (c_look_name : Cal P w K mg base 2 "look_name" (spV 1 rLName) []) (c_look_stamps : Cal P w K mg base 3 "look_stamps" (spV 2 rLStamps) []) :
    IniR P w K mg base 4 f ["mode", "time"] (spSymlink a) := by
  obtain ⟨cc, oc, od, kD, doc, pm, an, cdv, ct, osl, lk, hcd, C⟩ := F.ex
  intro A outer s H us ws vs zs Q E hr e0 r rz hl h
  obtain ⟨x, dx, nm, mo, ti, d, rfl, rfl, hx, hB, hd, k⟩ := h
  obtain ⟨x', n', d', rfl, r1, r2, r3⟩ : ∃ u1 u2 u3, us = [u1, u2, u3] ∧ RelV (.ref x) u1 ∧ RelV (vS nm) u2 ∧ RelV (vS d) u3 := by
    cases r with | cons a1 r => cases r with | cons a2 r => cases r with | cons a3 r => cases r; exact ⟨_, _, _, rfl, a1, a2, a3⟩
  obtain ⟨m', t', rfl, r4, r5⟩ := vals2 rz
  refine run_sup (pre := (C8.fnBody s_Symlink___init).take 3) (post := (C8.fnBody s_Symlink___init).drop 4) lk hcd sc_Symlink___init rfl C ((ok_Member_init F2).mono (by decide : 2 ≤ 3)) hr e0 (bnd_pure e0 (bind_Symlink ..) (.cons r1 (.cons r2 (.cons r3 (.cons r4 (.cons r5 .nil))))) rfl) (fun env => rfl) (fun env => rfl) (fun env => ⟨_, rfl⟩) fun s2 H2 vs2 ev hr => ?_
  obtain ⟨rfl, rfl⟩ := ev
  refine ⟨_, _, _, (pss_cons (ps_expr (C8.pe_c c_look_name hr (by decide) rfl (pa_cons (pv 1) pa_nil)))
    (pss_cons (ps_expr (C8.pe_c c_look_name hr (by decide) rfl (pa_cons (pv 2) pa_nil)))
    (pss_one (ps_expr (C8.pe_c c_look_stamps hr (by decide) rfl (pa_cons (pv 3) (pa_cons (pv 4) pa_nil))))))), (pa_cons (pv 1) (pa_cons (pv 3) (pa_cons (pv 4) (pa_cons (pv 2) pa_nil)))), (pss_one (ps_fld (pv 0) (pv 2) rfl)), ?_⟩
  refine q_drop (ev_callV (ea_cons (ev_var rfl) ea_nil) rfl fun _ _ => ⟨nm, rfl, labels_names hB.nm, rfl⟩) fun H3 e1 => ?_
  refine q_drop (ev_callV (ea_cons (ev_var rfl) ea_nil) rfl fun _ _ => ⟨d, rfl, symTs_names hd, rfl⟩) fun H4 e2 => ?_
  refine s_drop (ev_callV (ea_cons (ev_var rfl) (ea_cons (ev_var rfl) ea_nil)) rfl fun _ _ => ⟨mo, ti, rfl, hB.mo, hB.ti, rfl⟩) fun H5 e3 => ?_
  have e5 := (e1.trans e2).trans e3
  refine ⟨x, dx, [], rfl, e5 _ _ hx, fun q hq => ?_⟩
  have hxq : x ≠ q := fun z => by rw [← z, e5 _ _ hx] at hq; cases hq
  refine (show EvA _ _ _ [vS nm, vN mo, vN ti, vS d] from ea_cons (ev_var rfl) (ea_cons (ev_var rfl) (ea_cons (ev_var rfl) (ea_cons (ev_var rfl) ea_nil)))) _ (Ex.refl _) _ fun H6 e6 => ⟨e6 q _ upd_same, ?_⟩
  have hx6 : H6 x = some (.ins a.cSym dx []) := e6 _ _ (by rw [upd_ne hxq]; exact e5 _ _ hx)
  obtain ⟨u, hu⟩ := M.kind (.sym nm mo ti d)
  refine use_Member (rest := [vS d]) hx6 ⟨M.sym.cl, fun f hf => M.sym.no f (List.mem_of_mem_take (i := 4) hf)⟩ hu (by simp) fun key H7 b7 h1 h2 => ?_
  have b : ExB x H2 H7 := (ExB.of ((e5.trans (Ex.new hq)).trans e6)).trans b7
  refine s_fld (ev_var rfl) (ev_var rfl) h1 M.sym.cl (M.sym.no _ (by decide)) (show (4 : Nat) < 1000 by decide) fun H8 e8 => ?_
  refine k _ ((b.trans (ExB.of e8)).trans ExB.put) ⟨dx, key, 0, upd_same, ?_, trivial⟩
  rw [upd_ne (fun z => by rw [z, h1] at h2; cases h2)]
  exact e8 _ _ h2
abbrev nm_Link___init : List Str := ["self", "name", "target", "mode", "time"]
theorem sc_Link___init : FnScopeS nm_Link___init ["self", "name", "target", "mode", "time"] (defScope s_Link___init) := fnScopeS_by (by decide +kernel)
theorem bind_Link (kD : Addr) (doc pm : Value) (an : Option Addr) (cdv ct : Value) (cc : Addr) (x n d m t : Value) : bindArgs (PySem.W.ksFn "__init__" "Link.__init__" (C8.fnArgs s_Link___init) (C8.fnBody s_Link___init) (C8.fnScope s_Link___init) .none (.ref kD) doc pm an cdv ct cc) ⟨[x, n, d], (["mode", "time"] : List Str).zip [m, t]⟩ =
    pure ((["self", "name", "target", "mode", "time"] : List Str).zip [x, n, d, m, t]) := by kernel_rfl
def spLink (a : Ad) : SpI := fun vs zs H Q => ∃ (x dx : Addr) (nm : List Nat) (mo ti : Nat) (d : List Nat), vs = [.ref x, vS nm, vS d] ∧ zs = [vN mo, vN ti] ∧ H x = some (.ins a.cLink dx []) ∧ Mem.Base nm mo ti ∧ d ∈ lnkTs ∧ ∀ H', ExB x H H' → MemAt a H' x (.lnk nm mo ti d) → Q .non H'
theorem ok_Link_init {f f2 : Addr} (T : Txt K mg a) (M : Mcl K a) (F : SupD P K mg "Link.__init__" s_Link___init a.cLink f2 f) (F2 : MiniF K f2) (c_look_name : Cal P w K mg base 2 "look_name" (spV 1 rLName) []) (c_look_stamps : Cal P w K mg base 3 "look_stamps" (spV 2 rLStamps) []) :
    IniR P w K mg base 4 f ["mode", "time"] (spLink a) := by
  obtain ⟨cc, oc, od, kD, doc, pm, an, cdv, ct, osl, lk, hcd, C⟩ := F.ex
  intro A outer s H us ws vs zs Q E hr e0 r rz hl h
  obtain ⟨x, dx, nm, mo, ti, d, rfl, rfl, hx, hB, hd, k⟩ := h
  obtain ⟨x', n', d', rfl, r1, r2, r3⟩ : ∃ u1 u2 u3, us = [u1, u2, u3] ∧ RelV (.ref x) u1 ∧ RelV (vS nm) u2 ∧ RelV (vS d) u3 := by
    cases r with | cons a1 r => cases r with | cons a2 r => cases r with | cons a3 r => cases r; exact ⟨_, _, _, rfl, a1, a2, a3⟩
  obtain ⟨m', t', rfl, r4, r5⟩ := vals2 rz
  refine run_sup (pre := (C8.fnBody s_Link___init).take 3) (post := (C8.fnBody s_Link___init).drop 4) lk hcd sc_Link___init rfl C ((ok_Member_init F2).mono (by decide : 2 ≤ 3)) hr e0 (bnd_pure e0 (bind_Link ..) (.cons r1 (.cons r2 (.cons r3 (.cons r4 (.cons r5 .nil))))) rfl) (fun env => rfl) (fun env => rfl) (fun env => ⟨_, rfl⟩) fun s2 H2 vs2 ev hr => ?_
  obtain ⟨rfl, rfl⟩ := ev
  refine ⟨_, _, _, (pss_cons (ps_expr (C8.pe_c c_look_name hr (by decide) rfl (pa_cons (pv 1) pa_nil)))
    (pss_cons (ps_expr (C8.pe_c c_look_name hr (by decide) rfl (pa_cons (pv 2) pa_nil)))
    (pss_one (ps_expr (C8.pe_c c_look_stamps hr (by decide) rfl (pa_cons (pv 3) (pa_cons (pv 4) pa_nil))))))), (pa_cons (pv 1) (pa_cons (pv 3) (pa_cons (pv 4) (pa_cons (pv 2) pa_nil)))), (pss_one (ps_fld (pv 0) (pv 2) rfl)), ?_⟩
  refine q_drop (ev_callV (ea_cons (ev_var rfl) ea_nil) rfl fun _ _ => ⟨nm, rfl, labels_names hB.nm, rfl⟩) fun H3 e1 => ?_
  refine q_drop (ev_callV (ea_cons (ev_var rfl) ea_nil) rfl fun _ _ => ⟨d, rfl, lnkTs_names hd, rfl⟩) fun H4 e2 => ?_
  refine s_drop (ev_callV (ea_cons (ev_var rfl) (ea_cons (ev_var rfl) ea_nil)) rfl fun _ _ => ⟨mo, ti, rfl, hB.mo, hB.ti, rfl⟩) fun H5 e3 => ?_
  have e5 := (e1.trans e2).trans e3
  refine ⟨x, dx, [], rfl, e5 _ _ hx, fun q hq => ?_⟩
  have hxq : x ≠ q := fun z => by rw [← z, e5 _ _ hx] at hq; cases hq
  refine (show EvA _ _ _ [vS nm, vN mo, vN ti, vS d] from ea_cons (ev_var rfl) (ea_cons (ev_var rfl) (ea_cons (ev_var rfl) (ea_cons (ev_var rfl) ea_nil)))) _ (Ex.refl _) _ fun H6 e6 => ⟨e6 q _ upd_same, ?_⟩
  have hx6 : H6 x = some (.ins a.cLink dx []) := e6 _ _ (by rw [upd_ne hxq]; exact e5 _ _ hx)
  obtain ⟨u, hu⟩ := M.kind (.lnk nm mo ti d)
  refine use_Member (rest := [vS d]) hx6 ⟨M.lnk.cl, fun f hf => M.lnk.no f (List.mem_of_mem_take (i := 4) hf)⟩ hu (by simp) fun key H7 b7 h1 h2 => ?_
  have b : ExB x H2 H7 := (ExB.of ((e5.trans (Ex.new hq)).trans e6)).trans b7
  refine s_fld (ev_var rfl) (ev_var rfl) h1 M.lnk.cl (M.lnk.no _ (by decide)) (show (4 : Nat) < 1000 by decide) fun H8 e8 => ?_
  refine k _ ((b.trans (ExB.of e8)).trans ExB.put) ⟨dx, key, 0, upd_same, ?_, trivial⟩
  rw [upd_ne (fun z => by rw [z, h1] at h2; cases h2)]
  exact e8 _ _ h2
abbrev nm_Sparse___init : List Str := ["self", "name", "size", "mode", "time", "pieces"]
theorem sc_Sparse___init : FnScopeS nm_Sparse___init ["self", "name", "size", "mode", "time", "pieces"] (defScope s_Sparse___init) := fnScopeS_by (by decide +kernel)
theorem bind_Sparse (kD : Addr) (doc pm : Value) (an : Option Addr) (cdv ct : Value) (cc : Addr) (x n z m t : Value) : ∀ rest : List Value, bindArgs (PySem.W.ksFn "__init__" "Sparse.__init__" (C8.fnArgs s_Sparse___init) (C8.fnBody s_Sparse___init) (C8.fnScope s_Sparse___init) .none (.ref kD) doc pm an cdv ct cc) ⟨x :: n :: z :: rest, (["mode", "time"] : List Str).zip [m, t]⟩ =
    (newTuple rest >>= fun p => pure ((["self", "name", "size", "mode", "time", "pieces"] : List Str).zip [x, n, z, m, t, p]))
  | [] => by kernel_rfl
  | r :: rs => by kernel_rfl
theorem bnd_tup {fd : FuncData} {args : Args} {ps : List Str} {A : Around} {outer : List Env} {s : Shared} {H : Hp} {E : XK} {us rest : List Value} {vs rv : List V} (e0 : Env0 P w K mg base A outer s H) (hb : bindArgs fd args = (newTuple rest >>= fun p => pure (ps.zip (us ++ [p])))) (r : Vals vs us) (rr : Vals rv rest) (hz : rv.length ≤ 1000) (hl : vs.length + 1 = ps.length) :
    StX.Bnd C8.CX0 P w K mg base fd args ps A outer s H E (fun vs2 H2 => ∃ p, H p = none ∧ vs2 = vs ++ [.ref p] ∧ H2 = upd H p (.tup rv)) := fun A' Er Q h => by
  have hn : H s.heap.objs.size = none := e0.hok.fresh (Nat.le_refl _)
  have hz2 : rv.length ≤ sizeLine := by rw [sizeLine_eq]; omega
  rw [hb]
  refine wpAny_bind (wpAny_newTuple (wpAny_pure ?_) (by rw [← rr.length]; exact hz2))
  have new : ObjOk P w (upd H s.heap.objs.size (.tup rv)) (s.heap.push ({ cls := .type "tuple", data := .seq rest.toArray } : Obj)) s.heap.objs.size (.tup rv) := ⟨hz2, rest, rr, ⟨_, Heap.get?_push_size _ rfl, rfl, _, rfl⟩⟩
  exact h _ _ (vs ++ [.ref s.heap.objs.size]) (us ++ [.ref s.heap.objs.size]) (StX.env0_laid e0 new) (StX.un_laid hn) rfl (fun _ _ z => z) (r.append (.cons (show RelV (.ref s.heap.objs.size) (.ref s.heap.objs.size) from rfl) .nil)) (by rw [List.length_append]; exact hl) ⟨_, hn, rfl, rfl⟩
def spSparse (a : Ad) : SpI := fun vs zs H Q => ∃ (x dx : Addr) (nm : List Nat) (mo ti k : Nat) (u1 u2 : UInt8) (qs : List V), vs = [.ref x, vS nm, .int 9] ++ qs ∧ zs = [vN mo, vN ti] ∧ H x = some (.ins a.cSparse dx []) ∧ PcsAt H qs (pcs k u1 u2) ∧ Mem.Base nm mo ti ∧ k ≤ 2 ∧
  ∀ H', ExB x H H' → MemAt a H' x (.spa nm mo ti k u1 u2) → Q .non H'
theorem pcs_ok (k : Nat) (hk : k ≤ 2) (x y : UInt8) : (∀ q ∈ pcs k x y, 0 < q.2.length ∧ q.2.length ≤ 1000) ∧ spanB (-1) ((pcs k x y).map fun q => ((q.1 : Int), (q.2.length : Int))) = true ∧ spEnd (-1) ((pcs k x y).map fun q => ((q.1 : Int), (q.2.length : Int))) ≤ 9 ∧ (pcs k x y).length ≤ 2 := by
  match k, hk with
  | 0, _ => exact ⟨fun q h => by simp [pcs] at h, rfl, by simp [pcs, spEnd], by simp [pcs]⟩
  | 1, _ => exact ⟨fun q h => by simp [pcs] at h; subst h; simp, rfl, by simp [pcs, spEnd], by simp [pcs]⟩
  | 2, _ => exact ⟨fun q h => by simp [pcs] at h; rcases h with h | h <;> subst h <;> simp, rfl, by simp [pcs, spEnd], by simp [pcs]⟩
theorem ok_Sparse_init {f f2 : Addr} (T : Txt K mg a) (M : Mcl K a) (F : SupD P K mg "Sparse.__init__" s_Sparse___init a.cSparse f2 f) (F2 : MiniF K f2) (c_look_name : Cal P w K mg base 2 "look_name" (spV 1 rLName) []) (c_look_stamps : Cal P w K mg base 3 "look_stamps" (spV 2 rLStamps) [])
    (c_is_within : Cal P w K mg base 2 "is_within" (spV 3 rWithin) []) (c_are_pieces : Cal P w K mg base 3 "are_pieces" (spV 2 rPieces) []) : IniR P w K mg base 4 f ["mode", "time"] (spSparse a) := by
  obtain ⟨cc, oc, od, kD, doc, pm, an, cdv, ct, osl, lk, hcd, C⟩ := F.ex
  intro A outer s H us ws vs zs Q E hr e0 r rz hl h
  obtain ⟨x, dx, nm, mo, ti, kk, u1, u2, qs, rfl, rfl, hx, hq, hB, hk, k⟩ := h
  obtain ⟨po1, po2, po3, po4⟩ := pcs_ok kk hk u1 u2
  have hql := paired_len hq
  obtain ⟨x', n', d', rest', rfl, r1, r2, r3, rr⟩ : ∃ v1 v2 v3 vr, us = v1 :: v2 :: v3 :: vr ∧ RelV (.ref x) v1 ∧ RelV (vS nm) v2 ∧ RelV (.int 9) v3 ∧ Vals qs vr := by
    cases r with | cons a1 r => cases r with | cons a2 r => cases r with | cons a3 r => exact ⟨_, _, _, _, rfl, a1, a2, a3, r⟩
  obtain ⟨m', t', rfl, r4, r5⟩ := vals2 rz
  refine run_sup (pre := (C8.fnBody s_Sparse___init).take 4) (post := (C8.fnBody s_Sparse___init).drop 5) lk hcd sc_Sparse___init rfl C ((ok_Member_init F2).mono (by decide : 2 ≤ 3)) hr e0
    (bnd_tup (us := [x', n', d', m', t']) (vs := [.ref x, vS nm, .int 9, vN mo, vN ti]) e0 (bind_Sparse ..) (.cons r1 (.cons r2 (.cons r3 (.cons r4 (.cons r5 .nil))))) rr (by omega) rfl) (fun env => rfl) (fun env => rfl) (fun env => ⟨_, rfl⟩) fun s2 H2 vs2 ev hr => ?_
  obtain ⟨pt, hpt, rfl, rfl⟩ := ev
  have hxp : x ≠ pt := fun z => by rw [← z, hx] at hpt; cases hpt
  refine ⟨_, _, _, (pss_cons (ps_expr (C8.pe_c c_look_name hr (by decide) rfl (pa_cons (pv 1) pa_nil)))
    (pss_cons (ps_if (pt_not (pt_val (C8.pe_c c_is_within hr (by decide) rfl (pa_cons (pv 2) (pa_cons pe_int (pa_cons (pe_gc rfl T.g_MOST_DATA) pa_nil)))))) (pss_one ps_never) pss_nil)
    (pss_cons (ps_if (pt_not (pt_val (C8.pe_c c_are_pieces hr (by decide) rfl (pa_cons (pv 2) (pa_cons (pv 5) pa_nil))))) (pss_one ps_never) pss_nil)
    (pss_one (ps_expr (C8.pe_c c_look_stamps hr (by decide) rfl (pa_cons (pv 3) (pa_cons (pv 4) pa_nil)))))))), (pa_cons (pv 1) (pa_cons (pv 3) (pa_cons (pv 4) (pa_cons (pv 2) (pa_cons (pv 5) pa_nil))))), (pss_cons (ps_fld (pv 0) (pv 2) rfl)
    (pss_one (ps_fld (pv 0) (pv 5) rfl))), ?_⟩
  have hx0 : upd H pt (.tup qs) x = some (.ins a.cSparse dx []) := by rw [upd_ne hxp]; exact hx
  refine q_drop (ev_callV (ea_cons (ev_var rfl) ea_nil) rfl fun _ _ => ⟨nm, rfl, labels_names hB.nm, rfl⟩) fun H3 e1 => ?_
  refine q_when (et_nT (et_B (ev_callV (z := .bl true) (ea_cons (ev_var rfl) (ea_cons ev_c (ea_cons ev_c ea_nil))) rfl fun _ _ => ⟨9, 0, 4096, rfl, rfl⟩))) (fun h => absurd h (by decide)) fun _ H4 e2 => ?_
  have e12 := e1.trans e2
  refine q_when (et_nT (et_B (ev_callV (z := .bl true) (ea_cons (ev_var rfl) (ea_cons (ev_var rfl) ea_nil)) rfl fun H5 e5 => ⟨9, pt, qs, pcs kk u1 u2, rfl, (e12.trans e5) _ _ upd_same, hq.mono (a := a) (ExT.of ((Ex.new hpt).trans (e12.trans e5))), po1, po2, po3, by omega, rfl⟩))) (fun h => absurd h (by decide)) fun _ H5 e3 => ?_
  refine s_drop (ev_callV (ea_cons (ev_var rfl) (ea_cons (ev_var rfl) ea_nil)) rfl fun _ _ => ⟨mo, ti, rfl, hB.mo, hB.ti, rfl⟩) fun H6 e4 => ?_
  have e5 := (e12.trans e3).trans e4
  refine ⟨x, dx, [], rfl, e5 _ _ hx0, fun q hqn => ?_⟩
  have hxq : x ≠ q := fun z => by rw [← z, e5 _ _ hx0] at hqn; cases hqn
  refine (show EvA _ _ _ [vS nm, vN mo, vN ti, .int 9, .ref pt] from ea_cons (ev_var rfl) (ea_cons (ev_var rfl) (ea_cons (ev_var rfl) (ea_cons (ev_var rfl) (ea_cons (ev_var rfl) ea_nil))))) _ (Ex.refl _) _ fun H7 e7 => ⟨e7 q _ upd_same, ?_⟩
  have hx7 : H7 x = some (.ins a.cSparse dx []) := e7 _ _ (by rw [upd_ne hxq]; exact e5 _ _ hx0)
  obtain ⟨u, hu⟩ := M.kind (.spa nm mo ti kk u1 u2)
  refine use_Member (rest := [.int 9, .ref pt]) hx7 ⟨M.spa.cl, fun f hf => M.spa.no f (List.mem_of_mem_take (i := 4) hf)⟩ hu (by simp) fun key H8 b8 h1 h2 => ?_
  have b : ExB x (upd H pt (.tup qs)) H8 := (ExB.of ((e5.trans (Ex.new hqn)).trans e7)).trans b8
  have kx : key ≠ x := fun z => by rw [z, h1] at h2; cases h2
  refine q_fld (ev_var rfl) (ev_var rfl) h1 M.spa.cl (M.spa.no _ (by decide)) (show (4 : Nat) < 1000 by decide) fun H9 e9 => ?_
  refine s_fld (ev_var rfl) (ev_var rfl) upd_same M.spa.cl (M.spa.no _ (by decide)) (show (5 : Nat) < 1000 by decide) fun Ha ea => ?_
  have b2 := (((b.trans (ExB.of e9)).trans ExB.put).trans (ExB.of ea)).trans (ExB.put (o := .ins a.cSparse dx (base4 (.spa nm mo ti kk u1 u2) key ++ own pt (.spa nm mo ti kk u1 u2))))
  have b3 : ExB x H _ := ((ExB.of (Ex.new hpt)).trans b2)
  refine k _ b3 ⟨dx, key, pt, upd_same, ?_, qs, b2 _ _ upd_same (Ne.symm hxp), ?_⟩
  · rw [upd_ne kx]
    refine ea _ _ ?_
    rw [upd_ne kx]
    exact e9 _ _ h2
  · refine Paired.mapP hq fun v p hv => ?_
    obtain ⟨c, rfl, hc⟩ := hv
    exact ⟨c, rfl, b3 _ _ hc fun z => by rw [z, hx] at hc; cases hc⟩
end
end Tl
end

section
set_option Elab.async false
set_option linter.all false
set_option maxRecDepth 100000
set_option maxHeartbeats 4000000
/-! Equal things: ==, != of members, tuples, lists. -/
namespace Tl
open PySem PySem.Spec PyProof.Rows L2 Evl
section
open PySem.SeqAt GQ
open AutoSeq1 (wpAny_loadPart')
open MeetsSeq MeetsSeq2 MeetsSeq3 SeqRoads2
variable {prog : Program} {w : World} {A : Around} {R : Result → Shared → Prop}
theorem ne_loop (l b : Addr) (N : Nat) (J : Nat → Shared → Prop) (hl : ListI prog w A (fun e s' => R (.error e) s') l b N J) (fin : ∀ s, J N s → R (.ok (.ret (.bool false))) s) (k : Nat) : ∀ i : Nat, N - i = k → i ≤ N → ∀ s, J i s →
    wpAny (model prog w) A.in1 (Builtin.«list.__eq__.loop» ⟨[.ref l, .ref b, rawInt i, rawInt 3], []⟩) (FinOf prog w A R) (fun e s' => R (.error e) s') s := by
  induction k with
  | zero =>
    intro i e1 e2 s q
    obtain ⟨us, vs, n, m, g1, g2, z1, z2, _⟩ := hl _ _ q
    have ei : i = N := by omega
    have done : R (.ok (.ret (.bool false))) s := fin s (ei ▸ q)
    obtain ⟨hp, g, d, tk, os⟩ := s
    wp_walk using wpAny_loadPart' g1, wpAny_loadPart' g2
    have y1 : us[((i : Nat) : Int).toNat]? = none := by simp; omega
    have y2 : vs[((i : Nat) : Int).toNat]? = none := by simp; omega
    rw [y1, y2]
    wp_walk using wpAny_loadPart' g1, wpAny_loadPart' g2
    show R (.ok (.ret (.bool (us.size != vs.size)))) _
    rw [z1, z2]
    simpa using done
  | succ k ih =>
    intro i e1 e2 s q
    obtain ⟨us, vs, n, m, g1, g2, z1, z2, turn⟩ := hl _ _ q
    have l1 : i < us.size := by omega
    have l2 : i < vs.size := by omega
    have go := turn l1 l2
    obtain ⟨hp, g, d, tk, os⟩ := s
    wp_walk using wpAny_loadPart' g1, wpAny_loadPart' g2
    have y1 : us[((i : Nat) : Int).toNat]? = some us[i] := by simp [l1]
    have y2 : vs[((i : Nat) : Int).toNat]? = some vs[i] := by simp [l2]
    have ec : ((i : Int) + 1) = ((i + 1 : Nat) : Int) := by omega
    rw [y1, y2]
    refine wpAny_bind (thn go fun r s2 q2 => ?_)
    obtain ⟨er, q2⟩ := q2
    subst er
    have more := ih (i + 1) (by omega) (by omega) s2 q2
    obtain ⟨hp2, g2, d2, tk2, os2⟩ := s2
    wp_walk
    rw [ec]
    refine ⟨plainId_quiet plain_eq_loop _, codeAny_builtin entry_eq_loop ?_⟩
    rw [Around.under_plainId plain_eq_loop _]
    exact more
theorem ne_list (l b : Addr) (N : Nat) (J : Nat → Shared → Prop) (hl : ListI prog w A (fun e s' => R (.error e) s') l b N J) (fin : ∀ s, J N s → R (.ok (.ret (.bool false))) s) {s : Shared} (q : J 0 s) :
    wpAny (model prog w) A.in1 (Builtin.«list.__ne__» ⟨[.ref l, .ref b], []⟩) (FinOf prog w A R) (fun e s' => R (.error e) s') s := by
  obtain ⟨us, vs, n, m, g1, g2, z1, z2, _⟩ := hl _ _ q
  have more := ne_loop (A := A) (R := R) l b N J hl fin _ 0 rfl (Nat.zero_le _) s q
  obtain ⟨hp, g, d, tk, os⟩ := s
  have f3 := AutoSeq1.sub_list_list
  have same : ¬ (us.size != vs.size) = true := by simp [z1, z2]
  wp_walk using wpAny_loadPart' g1, wpAny_loadPart' g2
  refine ⟨plainId_quiet plain_eq_loop _, codeAny_builtin entry_eq_loop ?_⟩
  rw [Around.under_plainId plain_eq_loop _]
  exact more
theorem ne_tup (l b : Addr) (us vs : Array Value) (n m : Nat) (dd de : Option Addr) (sl sm : Array (Option Value)) (hsz : us.size = vs.size) (J : Nat → Shared → Prop)
    (turn : ∀ i (h1 : i < us.size) (h2 : i < vs.size) s, J i s → wpAny (model prog w) A.in1 (eqBool us[i] vs[i]) (fun r s' => r = true ∧ J (i + 1) s') (fun e s' => R (.error e) s') s)
    (fin : ∀ s, J us.size s → R (.ok (.ret (.bool false))) s) {s : Shared} (g1 : s.heap.get? l = some { cls := .type "tuple", dict := dd, data := .seq us n, slots := sl }) (g2 : s.heap.get? b = some { cls := .type "tuple", dict := de, data := .seq vs m, slots := sm }) (q : J 0 s) :
    wpAny (model prog w) A.in1 (Builtin.«tuple.__ne__» ⟨[.ref l, .ref b], []⟩) (FinOf prog w A R) (fun e s' => R (.error e) s') s := by
  have f2 := AutoSeq1.sub_tuple_tuple
  have zl : (us.toList.zip vs.toList).length = us.size := by simp [hsz]
  have q0 := q
  obtain ⟨hp, g, d, tk, os⟩ := s
  wp_walk using wpAny_loadPart' g1, wpAny_loadPart' g2, wpAny_forIn_list _ (fun rest b s' => b.1 = none ∧ ∃ i, rest = (us.toList.zip vs.toList).drop i ∧ i ≤ us.size ∧ J i s') _
  case turn =>
    rintro ⟨y, x⟩ rest b s' ⟨eb, i, ez, ei, ej⟩
    have lt : i < (us.toList.zip vs.toList).length := by
      by_cases h' : i < (us.toList.zip vs.toList).length
      · exact h'
      · rw [List.drop_of_length_le (by omega)] at ez
        cases ez
    have l1 : i < us.size := zl ▸ lt
    have l2 : i < vs.size := hsz ▸ l1
    rw [List.drop_eq_getElem_cons lt] at ez
    injection ez with e1 e2
    have ey : y = us[i] := by simpa using congrArg Prod.fst e1
    have ex : x = vs[i] := by simpa using congrArg Prod.snd e1
    subst ey ex
    refine wpAny_bind (thn (turn i l1 l2 s' ej) fun r s2 q2 => ?_)
    obtain ⟨er, q2⟩ := q2
    subst er
    wp_walk
    exact ⟨rfl, i + 1, e2, l1, q2⟩
  case fin =>
    rintro ⟨b1, b2⟩ s' ⟨eb, i, ez, ei, ej⟩
    simp only at eb
    subst eb
    have ge : us.size ≤ i := by
      by_cases h' : i < (us.toList.zip vs.toList).length
      · rw [List.drop_eq_getElem_cons h'] at ez
        cases ez
      · omega
    have e' : i = us.size := by omega
    have done : R (.ok (.ret (.bool false))) s' := fin s' (e' ▸ ej)
    wp_walk
    simpa [Builtin.Tuple.tupleCompareSizes, hsz] using done
  case h =>
    exact ⟨rfl, 0, rfl, Nat.zero_le _, q0⟩
end
/-! ### != of lists and tuples that are equal -/
def RcN (X : Cx) (n : Nat) (D : Eqv) : Prop :=
  ∀ (A : Around) (pins : List (Addr × Obj)) (s : Shared) (σ : L2.St) (H : Hp) (x y : V) (u v : Value), Sub X n A → Inv X pins σ H s → RelV x u → RelV y v → D x y H →
    wpAny (model X.prog X.w) A (richCompare .NotEq u v) (fun r s' => r = .bool false ∧ ∃ H', Inv X pins σ H' s' ∧ Ext H H') X.xe s
section
variable {X : Cx} {n : Nat} {D : Eqv}
theorem rcN_list (hD : Mon D) (h : EqG X n D) : RcN X (n + 1) (DList D) := by
  intro A pins s σ H x y u v sb I rx ry d
  obtain ⟨a, b, xs, ys, rfl, rfl, ha, hb, p⟩ := d
  cases rx
  cases ry
  have look : ∀ s', LoopI X pins σ H s' → ∃ (its its2 : List Value) (k k2 : Nat), Vals xs its ∧ Vals ys its2 ∧ s'.heap.get? a = some { cls := .type "list", data := .seq its.toArray k } ∧ s'.heap.get? b = some { cls := .type "list", data := .seq its2.toArray k2 } := fun s' q => by
    obtain ⟨H1, I1, e1⟩ := q
    obtain ⟨_, its, k, r, e⟩ := I1.hok a _ (e1 _ _ ha)
    obtain ⟨_, its2, k2, r2, e2⟩ := I1.hok b _ (e1 _ _ hb)
    exact ⟨its, its2, k, k2, r, r2, e, e2⟩
  have start : LoopI X pins σ H s := ⟨H, I, Ext.rfl'⟩
  obtain ⟨_, _, _, _, _, _, g1, g2⟩ := look s start
  refine wpAny_richCompare_same_room (op := .NotEq) ⟨_, g1, rfl⟩ ⟨_, g2, rfl⟩ F.slot_list_ne (GQ.call_here F.slot_list_ne ⟨_, g1, rfl⟩ F.entry_list_ne (F.args_list_ne_2 _ _) ?_) sb.room.units0
  refine ne_list (R := wants (fun v s' => v ≠ .notImplemented ∧ (v = .bool false ∧ ∃ H', Inv X pins σ H' s' ∧ Ext H H')) X.xe) a b xs.length (fun _ s' => LoopI X pins σ H s') (fun i s' q => ?_) (fun s' q => ⟨(fun z => nomatch z), rfl, q⟩) start
  obtain ⟨its, its2, k, k2, r, r2, e, e2⟩ := look s' q
  exact ⟨its.toArray, its2.toArray, k, k2, e, e2, by rw [List.size_toArray, ← r.length], by rw [List.size_toArray, ← r2.length, ← p.1], fun h1 h2 => turnG hD h sb p r r2 i h1 h2 s' q⟩
theorem rcN_tup (hD : Mon D) (h : EqG X n D) : RcN X (n + 1) (DTup X.K D) := by
  intro A pins s σ H x y u v sb I rx ry d
  obtain ⟨a, b, xs, ys, rfl, rfl, ha, hb, p⟩ := d
  cases rx
  cases ry
  obtain ⟨its, r, e, z⟩ := I.tuple ha
  obtain ⟨its2, r2, e2, z2⟩ := I.tuple hb
  have hsz : its.toArray.size = its2.toArray.size := by rw [List.size_toArray, List.size_toArray, ← r.length, ← r2.length]; exact p.1
  obtain ⟨⟨c1, d1, t1, sl1⟩, g1, hc1, n1, hd1⟩ := _root_.id e
  obtain ⟨⟨c2, d2, t2, sl2⟩, g2, hc2, n2, hd2⟩ := _root_.id e2
  simp only at hc1 hd1 hc2 hd2
  subst hc1 hd1 hc2 hd2
  refine wpAny_richCompare_same_room (op := .NotEq) ⟨_, g1, rfl⟩ ⟨_, g2, rfl⟩ F.slot_tuple_ne (GQ.call_here F.slot_tuple_ne ⟨_, g1, rfl⟩ F.entry_tuple_ne (F.args_tuple_ne_2 _ _) ?_) sb.room.units0
  exact ne_tup (R := wants (fun v s' => v ≠ .notImplemented ∧ (v = .bool false ∧ ∃ H', Inv X pins σ H' s' ∧ Ext H H')) X.xe) a b _ _ n1 n2 d1 d2 sl1 sl2 hsz (fun _ s' => LoopI X pins σ H s') (fun i h1 h2 s' q => turnG hD h sb p r r2 i h1 h2 s' q) (fun s' q => ⟨(fun z => nomatch z), rfl, q⟩) g1 g2 ⟨H, I, Ext.rfl'⟩
def rNeG (D : Eqv) : R2 := fun x y H Q => D x y H ∧ ∀ H', Ext H H' → Q (.bl false) H'
theorem op_neG (h : RcN X n D) (hr : Room n X.A) : OpR X (compareOp .NotEq) (rNeG D) := by
  intro pins s σ H x y u v Q I rx ry q
  refine thn (h X.A pins s σ H x y u v ⟨hr, rfl⟩ I rx ry q.1) fun r s' z => ?_
  obtain ⟨rfl, H', I', e⟩ := z
  exact ⟨.bl false, H', I', rfl, q.2 H' e⟩
end
/-! ### flat values, pairs, keys -/
def DFb : Eqv := fun x y _ => x = y ∧ flatB x = true
theorem mon_fb : Mon DFb := fun _ _ _ _ _ d => d
theorem eqG_fb {X : Cx} {n : Nat} : EqG X n DFb := by
  intro A pins s σ H x y u v sb I rx ry d
  obtain ⟨rfl, f⟩ := d
  exact eqAt_same (A := A) (s := s) rx ry f X.prog X.w X.xe _ ⟨rfl, H, I, Ext.rfl'⟩
def DPr (K : PySem.W.Frag) : Eqv := fun x y H => DFb x y H ∨ DTup K (DTup K DFb) x y H
theorem mon_pr {K : PySem.W.Frag} : Mon (DPr K) := Mon.or mon_fb (mon_tup (mon_tup mon_fb))
theorem eqG_pr {X : Cx} : EqG X 2 (DPr X.K) := EqG.or eqG_fb (eqG_tup (mon_tup mon_fb) (eqG_tup mon_fb (n := 0) eqG_fb))
abbrev DKey (K : PySem.W.Frag) : Eqv := DTup K (DPr K)
theorem rc_key {X : Cx} : RcG X 3 (DKey X.K) := rcG_tup mon_pr eqG_pr
theorem rv_eqG {D : Eqv} {H : Hp} {x y : V} (hD : Mon D) (d : D x y H) : RV (rEqG D) x y H (.bl true) := fun H1 e Q q => ⟨hD x y H H1 e d, fun H2 e2 => q H2 e2⟩
theorem rv_neG {D : Eqv} {H : Hp} {x y : V} (hD : Mon D) (d : D x y H) : RV (rNeG D) x y H (.bl false) := fun H1 e Q q => ⟨hD x y H H1 e d, fun H2 e2 => q H2 e2⟩
/-- two members that are the same have equal keys -/
theorem pcs_prs {K : PySem.W.Frag} {H : Hp} {vs ws : List V} {ps : List (Nat × Tar.By)} (h1 : PcsAt H vs ps) (h2 : PcsAt H ws ps) : Prs (DTup K DFb) vs ws H := by
  refine ⟨(paired_len h1).trans (paired_len h2).symm, fun i x y hx hy => ?_⟩
  obtain ⟨p, e1, b, rfl, hb⟩ := paired_get h1 hx
  obtain ⟨p', e2, c, rfl, hc⟩ := paired_get h2 hy
  rw [e1] at e2
  cases Option.some.inj e2
  exact ⟨b, c, _, _, rfl, rfl, st_of hb, st_of hc, Prs.cons ⟨rfl, rfl⟩ (Prs.cons ⟨rfl, rfl⟩ Prs.nil)⟩
end Tl
end

section
set_option Elab.async false
set_option linter.all false
set_option maxRecDepth 100000
set_option maxHeartbeats 4000000
namespace Tl
open PySem PySem.Spec PyProof.Rows L2 Evl
open Tar (By)
open C8 (Cal Met Mak pe_c pe_mk pe_mt pe_mt0 pe_gc fnScope_by)
section
variable {P : Program} {w : World} {K : PySem.W.Frag} {mg : Str → Option Value} {base : Heap} {a : Ad}
def Same (a : Ad) (p q : Addr) (H : Hp) : Prop := ∃ m, MemAt a H p m ∧ MemAt a H q m
theorem same_key {H : Hp} {p q : Addr} {m : Mem} (h1 : MemAt a H p m) (h2 : MemAt a H q m) : ∃ dx k pt dy l pu, H p = some (.ins (m.cls a) dx (base4 m k ++ own pt m)) ∧ H q = some (.ins (m.cls a) dy (base4 m l ++ own pu m)) ∧ DKey K (.ref k) (.ref l) H := by
  obtain ⟨dx, k, pt, a1, a2, a3⟩ := h1
  obtain ⟨dy, l, pu, b1, b2, b3⟩ := h2
  refine ⟨dx, k, pt, dy, l, pu, a1, b1, k, l, _, _, rfl, rfl, st_of a2, st_of b2, ?_⟩
  have fb : ∀ v : V, flatB v = true → DPr K v v H := fun v f => Or.inl ⟨rfl, f⟩
  refine Prs.cons (fb _ rfl) (Prs.cons (fb _ rfl) (Prs.cons (fb _ rfl) (Prs.cons (fb _ rfl) ?_)))
  cases m with
  | fil n mo ti d => exact Prs.cons (fb _ rfl) Prs.nil
  | dir n mo ti => exact Prs.nil
  | sym n mo ti g => exact Prs.cons (fb _ rfl) Prs.nil
  | lnk n mo ti g => exact Prs.cons (fb _ rfl) Prs.nil
  | spa n mo ti kk u v =>
    obtain ⟨vs, c1, c2⟩ := a3
    obtain ⟨ws, d1, d2⟩ := b3
    exact Prs.cons (fb _ rfl) (Prs.cons (Or.inr ⟨pt, pu, vs, ws, rfl, rfl, st_of c1, st_of d1, pcs_prs c2 d2⟩) Prs.nil)
abbrev nm_Member___eq : List Str := ["self", "other"]
theorem sc_Member___eq : FnScope nm_Member___eq ["self", "other"] (defScope s_Member___eq) := fnScope_by (by decide +kernel)
theorem ok_Member_eq {f : Addr} {fd : FuncData} (T : Txt K mg a) (M : Mcl K a) (F : C8.Fun K "__eq__" "Member.__eq__" s_Member___eq f fd) : FnOk P w K mg base C8.CX0 4 f fd ["self", "other"] (spEq (Same a)) := by
  refine C8.fn0 F sc_Member___eq (fun vs H Q E h => by obtain ⟨x, y, rfl, _⟩ := h; rfl) fun cdv A outer s H vs Q E hr h => ⟨_, (pss_one (ps_ret (pe_and (pe_callB call_isi (by rfl) T.b_isinstance (by decide +kernel) (pa_cons (pv 1) (pa_cons (pe_gc rfl T.c_Member) pa_nil))) (pe_one (pe_cmpR (op_eqG rc_key (hr.mono (by decide))) (pe_fld (pv 0) rfl) (pe_fld (pv 1) rfl) (nomark _)))))), ?_⟩
  obtain ⟨p, q, rfl, ⟨m, h1, h2⟩, k⟩ := h
  obtain ⟨dx, ky, pt, dy, l, pu, g1, g2, d⟩ := same_key (K := K) h1 h2
  obtain ⟨cl, no⟩ := M.at m
  have nk := no "key" (.tail _ (.tail _ (.tail _ (.head _))))
  have ic := M.insC m
  refine s_ret (v := .bl true) (ev_andV (a := true) (b := true) (ev_isi (ev_var rfl) ev_c (.own _) (.base (.ins g2 ic.cl ic.ha ic.hn ic.htk ic.hm)) (M.isM m)) fun _ => ev_op (ev_fld (ev_var rfl) g1 cl nk rfl) (ev_fld (ev_var rfl) g2 cl nk rfl) (rv_eqG (mon_tup mon_pr) d)) k
abbrev nm_File_content : List Str := ["self"]
theorem sc_File_content : FnScope nm_File_content ["self"] (defScope s_File_content) := fnScope_by (by decide +kernel)
/-- what a member holds when it is unpacked -/
def spC (k : Nat) (x y : UInt8) : By := match k with | 0 => Tar.zs 9 | 1 => [0, x, y] ++ Tar.zs 6 | _ => [0, x, y, 0, 0, 7] ++ Tar.zs 3
def Mem.content : Mem → By | .fil _ _ _ d => d | .spa _ _ _ k x y => spC k x y | _ => []
theorem ok_File_content (T : Txt K mg a) (M : Mcl K a) {f : Addr} {fd : FuncData} (F : C8.Fun K "content" "File.content" s_File_content f fd) (me : Meth K a.cFile "content" f) (b : Binds K fd ["self"] []) :
    Met P w K mg base 1 a.cFile "content" (spV 1 fun vs H z => ∃ p nm mo ti d, vs = [.ref p] ∧ MemAt a H p (.fil nm mo ti d) ∧ z = vB d) [] := by
  refine C8.met0 M.file.cl me F b sc_File_content (fun _ _ _ _ h => h.1) fun cdv A outer s H vs Q E hr h => ⟨_, (pss_one (ps_ret (pe_fld (pv 0) rfl))), ?_⟩
  obtain ⟨_, _, ⟨p, nm, mo, ti, d, rfl, hm, rfl⟩, k⟩ := h
  exact s_ret (ev_mem M hm (ev_var rfl) (.tail _ (.tail _ (.tail _ (.tail _ (.head _))))) fun _ _ _ _ => rfl) k
abbrev nm_Sparse_content : List Str := ["self", "found", "offset", "data"]
theorem sc_Sparse_content : FnScope nm_Sparse_content ["self"] (defScope s_Sparse_content) := fnScope_by (by decide +kernel)
theorem pcs_at {k : Nat} {x y : UInt8} {i : Nat} {p : Nat × By} (h : (pcs k x y)[i]? = some p) : (i = 0 ∧ p = (1, [x, y])) ∨ (i = 1 ∧ p = (5, [7])) := by
  unfold pcs at h
  rw [List.getElem?_take] at h
  split at h
  · match i, h with
    | 0, h => exact Or.inl ⟨rfl, (Option.some.inj h).symm⟩
    | 1, h => exact Or.inr ⟨rfl, (Option.some.inj h).symm⟩
    | i + 2, h => simp at h
  · cases h
def spF (x y : UInt8) : Nat → By | 0 => [] | 1 => [0, x, y] | _ => [0, x, y, 0, 0, 7]
theorem ok_Sparse_content (T : Txt K mg a) (M : Mcl K a) {f : Addr} {fd : FuncData} (F : C8.Fun K "content" "Sparse.content" s_Sparse_content f fd) (me : Meth K a.cSparse "content" f) (b : Binds K fd ["self"] []) :
    Met P w K mg base 1 a.cSparse "content" (spV 1 fun vs H z => ∃ p nm mo ti k x y, vs = [.ref p] ∧ MemAt a H p (.spa nm mo ti k x y) ∧ k ≤ 2 ∧ z = vB (spC k x y)) [] := by
  refine C8.met0 M.spa.cl me F b sc_Sparse_content (fun _ _ _ _ h => h.1) fun cdv A outer s H vs Q E hr h => ⟨_, (pss_cons (ps_set (i := 1) sc_Sparse_content.nd rfl (Or.inl rfl) (pe_callTy0 call_bytes0 (by rfl) T.b_bytes (by decide +kernel)))
    (pss_cons (ps_for PassesOwn.never rfl (pi_tup (pe_fld (pv 0) rfl)) (pg_tup rfl (pgs_cons (pg_name (i := 2) sc_Sparse_content.nd rfl (Or.inl rfl)) (pgs_cons (pg_name (i := 3) sc_Sparse_content.nd rfl (Or.inl rfl)) pgs_nil))) (pss_one (ps_set (i := 1) sc_Sparse_content.nd rfl (Or.inl rfl) (pe_op op_add_byt (pe_op op_add_byt (pv 1) (pe_callTy call_bytesN (by rfl) T.b_bytes (by decide +kernel) (pa_cons (pe_op op_sub (pv 2) (pe_callB call_len (by rfl) T.b_len PySem.boot_len (pa_cons (pv 1) pa_nil))) pa_nil))) (pv 3)))))
    (pss_one (ps_ret (pe_op op_add_byt (pv 1) (pe_callTy call_bytesN (by rfl) T.b_bytes (by decide +kernel) (pa_cons (pe_op op_sub (pe_fld (pv 0) rfl) (pe_callB call_len (by rfl) T.b_len PySem.boot_len (pa_cons (pv 1) pa_nil))) pa_nil))))))), ?_⟩
  obtain ⟨_, _, ⟨p, nm, mo, ti, k, x, y, rfl, hm, hk, rfl⟩, kk⟩ := h
  obtain ⟨dx, key, pt, g1, g2, qs, g3, g4⟩ := hm
  have ql := paired_len g4
  have kl : (pcs k x y).length = k := by
    match k, hk with
    | 0, _ => rfl
    | 1, _ => rfl
    | 2, _ => rfl
  refine q_asg (v := vB []) (ev_cb ea_nil fun H1 _ Q q => ⟨rfl, q H1 (Ex.refl H1)⟩) fun H1 e1 => ?_
  refine q_forT (xs := qs) (ev_fld (ev_var rfl) (e1 _ _ g1) M.spa.cl (M.spa.no _ (by decide)) rfl) (st_of (e1 _ _ g3)) (fun i σ' H' => Ex H H' ∧ ∃ u v, σ' = [some (.ref p), some (vB (spF x y i)), u, v]) (fun H2 e2 => ⟨e1.trans e2, none, none, rfl⟩) (fun i σ' H' _ h => st_of (h.1 _ _ g3)) ?_ ?_
  · rintro i z σ' H' hz ⟨e2, u, v, rfl⟩
    obtain ⟨q, hq, c, rfl, hc⟩ := paired_get g4 hz
    rcases pcs_at hq with ⟨rfl, rfl⟩ | ⟨rfl, rfl⟩
    · refine ⟨c, _, rfl, st_of (e2 _ _ hc), rfl, _, _, rfl, _, _, rfl, rfl, ?_⟩
      refine s_asg (v := vB [0, x, y]) (ev_catB (l := [0]) (m := [x, y]) (ev_catB (l := []) (m := [0]) (ev_var rfl) (ev_zeros (n := 1) (ev_I (g := fun i j => i - j) (ev_var rfl) (ev_len8 (l := []) (ev_var rfl) (by decide))) (by simp) (by decide)) (by decide)) (ev_var rfl) (by simp)) fun H4 e4 => ⟨e2.trans e4, some (vN 1), some (vB [x, y]), rfl⟩
    · refine ⟨c, _, rfl, st_of (e2 _ _ hc), rfl, _, _, rfl, _, _, rfl, rfl, ?_⟩
      refine s_asg (v := vB [0, x, y, 0, 0, 7]) (ev_catB (l := [0, x, y, 0, 0]) (m := [7]) (ev_catB (l := [0, x, y]) (m := [0, 0]) (ev_var rfl) (ev_zeros (n := 2) (ev_I (g := fun i j => i - j) (ev_var rfl) (ev_len8 (l := [0, x, y]) (ev_var rfl) (by simp))) (by simp) (by decide)) (by simp)) (ev_var rfl) (by simp)) fun H4 e4 => ⟨e2.trans e4, some (vN 5), some (vB [7]), rfl⟩
  · rintro σ' H' ⟨e2, u, v, rfl⟩
    rw [ql, kl]
    refine s_ret (v := vB (spC k x y)) ?_ fun H3 e3 => kk H3 (e2.trans e3)
    have sz0 : ∀ {σ : L2.St}, σ[0]? = some (some (.ref p)) → Ev (tFld K (tVar 0) "size") σ H' (.int 9) := fun h => ev_fld (ev_var h) (e2 _ _ g1) M.spa.cl (M.spa.no _ (by decide)) rfl
    match k, hk with
    | 0, _ => exact ev_catB (l := []) (m := Tar.zs 9) (ev_var rfl) (ev_zeros (n := 9) (ev_I (g := fun i j => i - j) (sz0 rfl) (ev_len8 (l := []) (ev_var rfl) (by decide))) (by decide) (by decide)) (by decide)
    | 1, _ => exact ev_catB (l := [0, x, y]) (m := Tar.zs 6) (ev_var rfl) (ev_zeros (n := 6) (ev_I (g := fun i j => i - j) (sz0 rfl) (ev_len8 (l := [0, x, y]) (ev_var rfl) (by simp))) (by simp) (by decide)) (by simp [Tar.zs])
    | 2, _ => exact ev_catB (l := [0, x, y, 0, 0, 7]) (m := Tar.zs 3) (ev_var rfl) (ev_zeros (n := 3) (ev_I (g := fun i j => i - j) (sz0 rfl) (ev_len8 (l := [0, x, y, 0, 0, 7]) (ev_var rfl) (by simp))) (by simp) (by decide)) (by simp [Tar.zs])
end
end Tl
end

section
set_option Elab.async false
set_option linter.all false
set_option maxRecDepth 100000
set_option maxHeartbeats 4000000
/-! Houses, plainly. -/
namespace Tl
open PySem
open Tar (By)
abbrev Path := List Nat
inductive Th where
  | fil (i : Nat)
  | dir (mo ti : Nat)
  | sym (tg : Path) (mo ti : Nat)
  deriving DecidableEq
structure Fi where
  d : By
  mo : Nat
  ti : Nat
  deriving DecidableEq
structure HS where
  st : List (Path × Th)
  fs : List Fi
inductive En where
  | fil (d : By) (mo ti : Nat)
  | dir (mo ti : Nat)
  | sym (tg : Path) (mo ti : Nat)
  | lnk (q : Path)
  deriving DecidableEq
def look : List (Path × Th) → Path → Option Th
  | [], _ => none
  | kv :: l, p => if kv.1 = p then some kv.2 else look l p
def store : List (Path × Th) → Path → Th → List (Path × Th)
  | [], p, t => [(p, t)]
  | kv :: l, p, t => if kv.1 = p then (p, t) :: l else kv :: store l p t
def HS.get (S : HS) (p : Path) : Option Th := look S.st p
def HS.setT (S : HS) (p : Path) (t : Th) : HS := ⟨store S.st p t, S.fs⟩
def HS.setF (S : HS) (p : Path) (f : Fi) : HS := ⟨store S.st p (.fil S.fs.length), S.fs ++ [f]⟩
def HS.emp : HS := ⟨[], []⟩
def abv (p : Path) : List Path := if p = [100, 47, 97] ∨ p = [100, 47, 98] ∨ p = [100, 47, 101] then [[100]] else if p = [100, 47, 101, 47, 99] then [[100], [100, 47, 101]] else []
def Th.kd : Option Th → Str | none => "absent" | some (.fil _) => "file" | some (.dir ..) => "directory" | some (.sym ..) => "symlink"
def HS.kd (S : HS) (p : Path) : Str := Th.kd (S.get p)
def HS.mk1 (S : HS) (p : Path) : HS := if S.get p = none then S.setT p (.dir 493 0) else S
def HS.put (S : HS) (m : Mem) : HS :=
  let S1 := (abv m.nm).foldl HS.mk1 S
  match m with
  | .dir n mo ti => S1.setT n (.dir mo ti)
  | .sym n mo ti g => S1.setT n (.sym g mo ti)
  | .lnk n _ _ g => S1.setT n ((S1.get g).getD (.dir 0 0))
  | .fil n mo ti d => S1.setF n ⟨d, mo, ti⟩
  | .spa n mo ti k x y => S1.setF n ⟨spC k x y, mo, ti⟩
def HS.okAbove (S : HS) (p : Path) : Bool := (abv p).all fun q => decide (S.kd q = "absent") || decide (S.kd q = "directory")
def HS.refuse (S : HS) (m : Mem) : Str :=
  if S.okAbove m.nm = false then "parent" else
  match m with
  | .dir n _ _ => if S.kd n = "file" ∨ S.kd n = "symlink" then "occupied" else ""
  | .lnk n _ _ g => if S.kd n = "directory" then "directory" else if S.kd g = "file" then "" else "target"
  | m => if S.kd m.nm = "directory" then "directory" else ""
def rowsGo (S : HS) : List Path → List (Nat × Path) → List (Path × En)
  | [], _ => []
  | p :: r, fst => match S.get p with
    | some (.dir mo ti) => (p, .dir mo ti) :: rowsGo S r fst
    | some (.sym g mo ti) => (p, .sym g mo ti) :: rowsGo S r fst
    | some (.fil i) => match fst.lookup i with
      | some q => (p, .lnk q) :: rowsGo S r fst
      | none => (p, .fil (S.fs.getD i ⟨[], 0, 0⟩).d (S.fs.getD i ⟨[], 0, 0⟩).mo (S.fs.getD i ⟨[], 0, 0⟩).ti) :: rowsGo S r (fst ++ [(i, p)])
    | none => rowsGo S r fst
def srt (l : List Path) : List Path := labels.filter fun p => decide (p ∈ l)
def HS.rows (S : HS) : List (Path × En) := rowsGo S (srt (S.st.map (·.1))) []
structure HS.Wf (S : HS) (n : Nat) : Prop where
  sub : ∀ kv ∈ S.st, kv.1 ∈ labels
  nd : (S.st.map (·.1)).Nodup
  idx : ∀ p i, S.get p = some (.fil i) → i < S.fs.length
  len : S.fs.length ≤ n
/-! ### looking and storing -/
theorem look_store (p q : Path) (t : Th) : ∀ l : List (Path × Th), look (store l p t) q = if q = p then some t else look l q
  | [] => by
    unfold store look look
    by_cases h : q = p
    · rw [if_pos h.symm, if_pos h]
    · rw [if_neg (fun e => h e.symm), if_neg h]
  | kv :: l => by
    unfold store
    by_cases h : kv.1 = p
    · rw [if_pos h]
      unfold look
      by_cases h2 : q = p
      · rw [if_pos h2.symm, if_pos h2]
      · rw [if_neg (fun e => h2 e.symm), if_neg h2, if_neg (fun e => h2 (e.symm.trans h))]
    · rw [if_neg h]
      unfold look
      by_cases h2 : kv.1 = q
      · rw [if_pos h2, if_neg (fun e => h (h2.trans e))]
        simp [h2]
      · rw [if_neg h2, if_neg h2]
        exact look_store p q t l
theorem look_mem : ∀ {l : List (Path × Th)} {p : Path}, (look l p).isSome = true ↔ p ∈ l.map (·.1)
  | [], p => by simp [look]
  | kv :: l, p => by
    unfold look
    by_cases h : kv.1 = p
    · simp [h]
    · rw [if_neg h, look_mem (l := l), List.map_cons, List.mem_cons]
      exact ⟨Or.inr, fun z => z.elim (fun e => absurd e.symm h) id⟩
theorem store_keys (p : Path) (t : Th) : ∀ l : List (Path × Th), (store l p t).map (·.1) = if p ∈ l.map (·.1) then l.map (·.1) else l.map (·.1) ++ [p]
  | [] => rfl
  | kv :: l => by
    unfold store
    by_cases h : kv.1 = p
    · rw [if_pos h]
      simp [h]
    · rw [if_neg h, List.map_cons, store_keys p t l, List.map_cons]
      have e : (p ∈ kv.1 :: l.map (·.1)) ↔ p ∈ l.map (·.1) := by
        rw [List.mem_cons]
        exact ⟨fun z => z.elim (fun e => absurd e.symm h) id, Or.inr⟩
      by_cases h2 : p ∈ l.map (·.1)
      · rw [if_pos h2, if_pos (e.mpr h2)]
      · rw [if_neg h2, if_neg (fun z => h2 (e.mp z))]
        rfl
theorem store_nd {p : Path} {t : Th} {l : List (Path × Th)} (h : (l.map (·.1)).Nodup) : ((store l p t).map (·.1)).Nodup := by
  rw [store_keys]
  by_cases hp : p ∈ l.map (·.1)
  · rw [if_pos hp]
    exact h
  · rw [if_neg hp, List.nodup_append]
    refine ⟨h, by simp, fun x hx y hy e => ?_⟩
    rw [List.mem_singleton] at hy
    exact hp (hy ▸ e ▸ hx)
theorem HS.get_setT (S : HS) (p q : Path) (t : Th) : (S.setT p t).get q = if q = p then some t else S.get q := look_store p q t S.st
theorem HS.get_setF (S : HS) (p q : Path) (f : Fi) : (S.setF p f).get q = if q = p then some (.fil S.fs.length) else S.get q := look_store p q _ S.st
theorem HS.get_mk1 (S : HS) (p q : Path) : (S.mk1 p).get q = if q = p ∧ S.get p = none then some (.dir 493 0) else S.get q := by
  unfold HS.mk1
  by_cases h : S.get p = none
  · rw [if_pos h, HS.get_setT]
    by_cases h2 : q = p
    · rw [if_pos h2, if_pos ⟨h2, h⟩]
    · rw [if_neg h2, if_neg (fun z => h2 z.1)]
  · rw [if_neg h, if_neg (fun z => h z.2)]
theorem abv_labels : ∀ p ∈ labels, ∀ q ∈ abv p, q ∈ labels := by decide +kernel
/-! ### what stays well -/
theorem wf_store {S : HS} {n : Nat} (W : S.Wf n) {p : Path} {t : Th} (hp : p ∈ labels) (ht : ∀ i, t = .fil i → i < S.fs.length) : (S.setT p t).Wf n := by
  refine ⟨fun kv hkv => ?_, store_nd W.nd, fun q i h => ?_, W.len⟩
  · have : kv.1 ∈ (store S.st p t).map (·.1) := List.mem_map_of_mem hkv
    rw [store_keys] at this
    split at this
    · obtain ⟨a, ha, e⟩ := List.mem_map.1 this
      rw [← e]
      exact W.sub a ha
    · rcases List.mem_append.1 this with h | h
      · obtain ⟨a, ha, e⟩ := List.mem_map.1 h
        rw [← e]
        exact W.sub a ha
      · rw [List.mem_singleton.1 h]
        exact hp
  · rw [HS.get_setT] at h
    split at h
    · exact ht i (Option.some.inj h)
    · exact W.idx q i h
theorem wf_storeF {S : HS} {n : Nat} (W : S.Wf n) {p : Path} (hp : p ∈ labels) (f : Fi) : (S.setF p f).Wf (n + 1) := by
  have W2 : HS.Wf ⟨S.st, S.fs ++ [f]⟩ (n + 1) := ⟨W.sub, W.nd, fun q i h => by
    have := W.idx q i h
    show i < (S.fs ++ [f]).length
    rw [List.length_append]
    exact Nat.lt_add_right _ this, by
    show (S.fs ++ [f]).length ≤ n + 1
    rw [List.length_append, List.length_singleton]
    exact Nat.succ_le_succ W.len⟩
  refine wf_store (S := ⟨S.st, S.fs ++ [f]⟩) W2 hp fun i e => ?_
  cases e
  show S.fs.length < (S.fs ++ [f]).length
  rw [List.length_append, List.length_singleton]
  exact Nat.lt_succ_self _
theorem wf_mk1 {S : HS} {n : Nat} (W : S.Wf n) {p : Path} (hp : p ∈ labels) : (S.mk1 p).Wf n := by
  unfold HS.mk1
  split
  · exact wf_store W hp fun i e => by cases e
  · exact W
theorem wf_mks : ∀ {l : List Path} {S : HS} {n : Nat}, S.Wf n → (∀ p ∈ l, p ∈ labels) → (l.foldl HS.mk1 S).Wf n
  | [], _, _, W, _ => W
  | p :: l, S, n, W, h => wf_mks (l := l) (S := S.mk1 p) (wf_mk1 W (h p (List.mem_cons_self ..))) fun q hq => h q (List.mem_cons_of_mem _ hq)
theorem mk1_keep {S : HS} {p q : Path} {t : Th} (h : S.get q = some t) : (S.mk1 p).get q = some t := by
  rw [HS.get_mk1]
  by_cases e : q = p ∧ S.get p = none
  · rw [e.1, e.2] at h
    cases h
  · rw [if_neg e]
    exact h
theorem mks_keep : ∀ {l : List Path} {S : HS} {q : Path} {t : Th}, S.get q = some t → (l.foldl HS.mk1 S).get q = some t
  | [], _, _, _, h => h
  | p :: l, S, _, _, h => mks_keep (l := l) (S := S.mk1 p) (mk1_keep h)
theorem mks_fs : ∀ {l : List Path} {S : HS}, (l.foldl HS.mk1 S).fs = S.fs
  | [], _ => rfl
  | p :: l, S => by
    rw [List.foldl_cons, mks_fs (l := l)]
    unfold HS.mk1
    split <;> rfl
theorem mks_new : ∀ {l : List Path} {S : HS} {q : Path}, q ∉ l → (l.foldl HS.mk1 S).get q = S.get q
  | [], _, _, _ => rfl
  | p :: l, S, q, h => by
    have ne : ¬ (q = p ∧ S.get p = none) := fun z => h (by rw [z.1]; exact List.mem_cons_self ..)
    rw [List.foldl_cons, mks_new (l := l) fun z => h (List.mem_cons_of_mem _ z), HS.get_mk1, if_neg ne]
/-! ### sorted -/
def rank (p : Path) : Nat := labels.idxOf p
theorem rank_lt : ∀ a ∈ labels, ∀ b ∈ labels, Spec.ltCps b a = false → rank a ≤ rank b := by decide +kernel
theorem rank_inj : ∀ a ∈ labels, ∀ b ∈ labels, rank a ≤ rank b → rank b ≤ rank a → a = b := by decide +kernel
theorem labels_sorted : labels.Pairwise fun a b => rank a ≤ rank b := by decide +kernel
theorem labels_nd : labels.Nodup := by decide +kernel
theorem srt_perm {ks : List Path} (hs : ∀ k ∈ ks, k ∈ labels) (nd : ks.Nodup) : (srt ks).Perm ks := by
  refine (List.perm_ext_iff_of_nodup (labels_nd.sublist List.filter_sublist) nd).mpr fun a => ?_
  rw [List.mem_filter, decide_eq_true_eq]
  exact ⟨fun h => h.2, fun h => ⟨hs a h, h⟩⟩
theorem rising_pw : ∀ (l : List Str) (p : Str), p.cps.toList ∈ labels → (∀ y ∈ l, y.cps.toList ∈ labels) → PyProof.Rows.risingS p l = true → (∀ y ∈ l, rank p.cps.toList ≤ rank y.cps.toList) ∧ l.Pairwise fun a b => rank a.cps.toList ≤ rank b.cps.toList
  | [], _, _, _, _ => ⟨fun y h => by simp at h, .nil⟩
  | x :: r, p, hp, hl, h => by
    simp only [PyProof.Rows.risingS, Bool.and_eq_true, Bool.not_eq_true'] at h
    have hx := hl x (List.mem_cons_self ..)
    have h1 := rank_lt _ hp _ hx h.1
    obtain ⟨i1, i2⟩ := rising_pw r x hx (fun y hy => hl y (List.mem_cons_of_mem _ hy)) h.2
    refine ⟨fun y hy => ?_, List.pairwise_cons.mpr ⟨i1, i2⟩⟩
    rcases List.mem_cons.mp hy with e | hy
    · rw [e]
      exact h1
    · exact Nat.le_trans h1 (i1 y hy)
theorem sS_tl (l : List Nat) : (sS l).cps.toList = l := rfl
theorem tl_sS (y : Str) : sS y.cps.toList = y := SX.S_tl y
theorem srt_of {ks : List Path} (hs : ∀ k ∈ ks, k ∈ labels) (nd : ks.Nodup) {ys : List Str} (hp : ys.Perm (ks.map sS)) (h : PyProof.Rows.sortedS ys = true) : ys = (srt ks).map sS := by
  have hmem : ∀ y ∈ ys, y.cps.toList ∈ labels := fun y hy => by
    obtain ⟨k, hk, rfl⟩ := List.mem_map.1 (hp.mem_iff.1 hy)
    exact hs k hk
  have pw : ys.Pairwise fun a b => rank a.cps.toList ≤ rank b.cps.toList := by
    cases ys with
    | nil => exact .nil
    | cons x r =>
      have z := rising_pw r x (hmem x (List.mem_cons_self ..)) (fun y hy => hmem y (List.mem_cons_of_mem _ hy)) h
      exact List.pairwise_cons.mpr z
  refine List.Perm.eq_of_pairwise (le := fun a b => rank a.cps.toList ≤ rank b.cps.toList) (fun a b ha hb h1 h2 => ?_) pw ?_ (hp.trans ((srt_perm hs nd).map sS).symm)
  · obtain ⟨k, hk, rfl⟩ := List.mem_map.1 hb
    have hkl : k ∈ labels := (List.mem_filter.1 hk).1
    have := rank_inj _ (hmem a ha) k hkl h1 h2
    rw [← this]
  · rw [List.pairwise_map]
    exact labels_sorted.sublist List.filter_sublist
/-! ### the rows -/
def En.plain : En → Option Th | .dir mo ti => some (.dir mo ti) | .sym g mo ti => some (.sym g mo ti) | _ => none
theorem plain_inj {e e' : En} {t : Th} (h1 : e.plain = some t) (h2 : e'.plain = some t) : e = e' := by
  have h := h1.trans h2.symm
  cases e <;> cases e' <;> simp [En.plain] at h h1 ⊢
  all_goals first | exact h | exact ⟨h.1, h.2⟩
theorem rows_plain (S : HS) {t : Th} {e : En} (he : e.plain = some t) : ∀ {l : List Path} {f : List (Nat × Path)} {q : Path}, (q, e) ∈ rowsGo S l f ↔ q ∈ l ∧ S.get q = some t
  | [], f, q => by simp [rowsGo]
  | p :: l, f, q => by
    have ih : ∀ f, (q, e) ∈ rowsGo S l f ↔ q ∈ l ∧ S.get q = some t := fun f => rows_plain S he (l := l)
    have other : ∀ {r : List (Path × En)} {e' : En}, e'.plain = none → ((q, e) ∈ (p, e') :: r ↔ (q, e) ∈ r) := fun {r e'} h => by
      rw [List.mem_cons]
      refine ⟨fun z => z.elim (fun z => ?_) id, Or.inr⟩
      have : e = e' := congrArg Prod.snd z
      rw [this, h] at he
      cases he
    have this : ∀ {r : List (Path × En)} {e' : En} {t' : Th}, e'.plain = some t' → S.get p = some t' → ((q, e) ∈ r ↔ q ∈ l ∧ S.get q = some t) → ((q, e) ∈ (p, e') :: r ↔ q ∈ p :: l ∧ S.get q = some t) := fun {r e' t'} h1 h2 hr => by
      rw [List.mem_cons, List.mem_cons, hr]
      constructor
      · rintro (z | z)
        · have a := congrArg Prod.fst z
          have b := congrArg Prod.snd z
          simp only at a b
          subst a b
          rw [h1] at he
          exact ⟨Or.inl rfl, h2.trans he⟩
        · exact ⟨Or.inr z.1, z.2⟩
      · rintro ⟨z | z, y⟩
        · subst z
          left
          rw [h2] at y
          cases Option.some.inj y
          rw [plain_inj he h1]
        · exact Or.inr ⟨z, y⟩
    have miss : S.get p ≠ some t → ((q ∈ l ∧ S.get q = some t) ↔ (q ∈ p :: l ∧ S.get q = some t)) := fun h => by
      rw [List.mem_cons]
      refine ⟨fun z => ⟨Or.inr z.1, z.2⟩, fun z => ⟨z.1.elim (fun a => absurd (a ▸ z.2) h) id, z.2⟩⟩
    have nf : ∀ i, t ≠ .fil i := fun i z => by
      subst z
      cases e <;> simp [En.plain] at he
    unfold rowsGo
    cases hg : S.get p with
    | none => exact (ih f).trans (miss (by rw [hg]; simp))
    | some u =>
      cases u with
      | dir mo ti => exact this rfl hg (ih f)
      | sym g mo ti => exact this rfl hg (ih f)
      | fil i =>
        have mm := miss (by rw [hg]; exact fun z => nf i (Option.some.inj z).symm)
        dsimp only
        cases f.lookup i with
        | some q' => exact (other rfl).trans ((ih f).trans mm)
        | none => exact (other rfl).trans ((ih _).trans mm)
theorem rows_keys (S : HS) : ∀ {l : List Path} {f : List (Nat × Path)}, (∀ p ∈ l, (S.get p).isSome = true) → (rowsGo S l f).map (·.1) = l
  | [], f, _ => rfl
  | p :: l, f, h => by
    have ih : ∀ f, (rowsGo S l f).map (·.1) = l := fun f => rows_keys S fun q hq => h q (List.mem_cons_of_mem _ hq)
    unfold rowsGo
    cases hg : S.get p with
    | none =>
      have := h p (List.mem_cons_self ..)
      rw [hg] at this
      cases this
    | some u =>
      cases u with
      | dir mo ti => exact congrArg (p :: ·) (ih f)
      | sym g mo ti => exact congrArg (p :: ·) (ih f)
      | fil i =>
        dsimp only
        cases f.lookup i with
        | some q' => exact congrArg (p :: ·) (ih f)
        | none => exact congrArg (p :: ·) (ih _)
theorem mem_srt {S : HS} {n : Nat} (W : S.Wf n) {q : Path} : q ∈ srt (S.st.map (·.1)) ↔ (S.get q).isSome = true := by
  unfold srt
  rw [List.mem_filter, decide_eq_true_eq, ← look_mem]
  refine ⟨fun h => h.2, fun h => ⟨?_, h⟩⟩
  obtain ⟨kv, hkv, rfl⟩ := List.mem_map.1 (look_mem.1 h)
  exact W.sub kv hkv
theorem keys_rows {S : HS} {n : Nat} (W : S.Wf n) : S.rows.map (·.1) = srt (S.st.map (·.1)) := rows_keys S fun p hp => (mem_srt W).1 hp
theorem row_plain {S : HS} {n : Nat} (W : S.Wf n) {q : Path} {e : En} {t : Th} (he : e.plain = some t) : (q, e) ∈ S.rows ↔ S.get q = some t := by
  unfold HS.rows
  rw [rows_plain S he, mem_srt W]
  exact ⟨fun h => h.2, fun h => ⟨by rw [h]; rfl, h⟩⟩
theorem put_get {S : HS} {m : Mem} {q : Path} (h1 : q ≠ m.nm) (h2 : q ∉ abv m.nm) : (S.put m).get q = S.get q := by
  unfold HS.put
  cases m with
  | fil n mo ti d => exact (HS.get_setF ..).trans ((if_neg h1).trans (mks_new h2))
  | spa n mo ti k x y => exact (HS.get_setF ..).trans ((if_neg h1).trans (mks_new h2))
  | dir n mo ti => exact (HS.get_setT ..).trans ((if_neg h1).trans (mks_new h2))
  | sym n mo ti g => exact (HS.get_setT ..).trans ((if_neg h1).trans (mks_new h2))
  | lnk n mo ti g => exact (HS.get_setT ..).trans ((if_neg h1).trans (mks_new h2))
theorem put_some {S : HS} {m : Mem} {q : Path} (h : (S.get q).isSome = true) : ((S.put m).get q).isSome = true := by
  have k : (((abv m.nm).foldl HS.mk1 S).get q).isSome = true := by
    cases e : S.get q with
    | none => rw [e] at h; cases h
    | some t => rw [mks_keep e]; rfl
  have k2 : ∀ t, (if q = m.nm then some t else ((abv m.nm).foldl HS.mk1 S).get q).isSome = true := fun t => by
    by_cases z : q = m.nm
    · rw [if_pos z]; rfl
    · rw [if_neg z]; exact k
  unfold HS.put
  cases m with
  | fil n mo ti d => exact (congrArg Option.isSome (HS.get_setF ..)).trans (k2 _)
  | spa n mo ti k x y => exact (congrArg Option.isSome (HS.get_setF ..)).trans (k2 _)
  | dir n mo ti => exact (congrArg Option.isSome (HS.get_setT ..)).trans (k2 _)
  | sym n mo ti g => exact (congrArg Option.isSome (HS.get_setT ..)).trans (k2 _)
  | lnk n mo ti g => exact (congrArg Option.isSome (HS.get_setT ..)).trans (k2 _)
end Tl
end

section
set_option Elab.async false
set_option linter.all false
set_option maxRecDepth 100000
set_option maxHeartbeats 4000000
/-! Houses on the heap, their methods. -/
namespace Tl
open PySem PySem.Spec PyProof.Rows L2 Evl
open Tar (By)
open C8 (Cal Met Mak pe_c pe_mk pe_mt pe_mt0 pe_gc fnScope_by)
def thV : Th → List V | .fil i => [.str "file", vN i] | .dir mo ti => [.str "directory", vN mo, vN ti] | .sym g mo ti => [.str "symlink", vS g, vN mo, vN ti]
def fiV (f : Fi) : List V := [.str "file", vB f.d, vN f.mo, vN f.ti]
def enV : En → List V | .fil d mo ti => fiV ⟨d, mo, ti⟩ | .dir mo ti => thV (.dir mo ti) | .sym g mo ti => thV (.sym g mo ti) | .lnk q => [.str "link", vS q]
def TK (K : PySem.W.Frag) (H : Hp) (b : Addr) (xs : List V) : Prop := H b = some (.tup xs) ∨ ∀ H', SqT K H' b xs
theorem TK.sq {K : PySem.W.Frag} {H : Hp} {b : Addr} {xs : List V} (h : TK K H b xs) : SqT K H b xs := h.elim st_of fun k => k H
theorem TK.mono {K : PySem.W.Frag} {a : Ad} {H H' : Hp} {b : Addr} {xs : List V} (e : ExT a H H') (h : TK K H b xs) : TK K H' b xs := h.elim (fun z => Or.inl (e _ _ z (Or.inl ⟨_, rfl⟩))) Or.inr
def TkV (K : PySem.W.Frag) (H : Hp) (v : V) (xs : List V) : Prop := ∃ b, v = .ref b ∧ TK K H b xs
theorem TkV.mono {K : PySem.W.Frag} {a : Ad} {H H' : Hp} {v : V} {xs : List V} (e : ExT a H H') (h : TkV K H v xs) : TkV K H' v xs := let ⟨b, e1, h1⟩ := h; ⟨b, e1, h1.mono e⟩
abbrev kS (p : Path) : Key := .inr (sS p)
def StA (K : PySem.W.Frag) (H : Hp) : List (Key × V) → List (Path × Th) → Prop := Paired fun kv pt => kv.1 = kS pt.1 ∧ TkV K H kv.2 (thV pt.2)
def FsA (K : PySem.W.Frag) (H : Hp) (kvs : List (Key × V)) (fs : List Fi) : Prop := kvs.length = fs.length ∧ ∀ (i : Nat) (f : Fi), fs[i]? = some f → ∃ v, kvs[i]? = some (.inl (i : Int), v) ∧ TkV K H v (fiV f)
theorem StA.mono {K : PySem.W.Frag} {a : Ad} {H H' : Hp} {kvs : List (Key × V)} {st : List (Path × Th)} (e : ExT a H H') (h : StA K H kvs st) : StA K H' kvs st := Paired.mapP h fun _ _ z => ⟨z.1, z.2.mono e⟩
theorem FsA.mono {K : PySem.W.Frag} {a : Ad} {H H' : Hp} {kvs : List (Key × V)} {fs : List Fi} (e : ExT a H H') (h : FsA K H kvs fs) : FsA K H' kvs fs := ⟨h.1, fun i f hi => let ⟨v, h1, h2⟩ := h.2 i f hi; ⟨v, h1, h2.mono e⟩⟩
theorem sS_inj {p q : List Nat} (h : sS p = sS q) : p = q := SX.S_inj h
theorem kS_inj {p q : Path} (h : kS p = kS q) : p = q := by
  have e : sS p = sS q := by injection h
  exact sS_inj e
theorem putK_cons {kv : Key × V} {l : List (Key × V)} {k : Key} {v : V} : putK (kv :: l) k v = if kv.1 = k then (kv.1, v) :: l.map (fun kv => if kv.1 = k then (kv.1, v) else kv) else kv :: putK l k v := by
  unfold putK
  by_cases h : kv.1 = k
  · simp [h]
  · rw [if_neg h]
    by_cases h2 : (l.any fun kv => decide (kv.1 = k)) = true
    · simp [h, h2]
    · simp [h, h2]
theorem StA.get {K : PySem.W.Frag} {H : Hp} : ∀ {kvs : List (Key × V)} {st : List (Path × Th)}, StA K H kvs st → ∀ p, (look st p = none ∧ valV kvs (kS p) = none) ∨ ∃ t v, look st p = some t ∧ valV kvs (kS p) = some v ∧ TkV K H v (thV t)
  | _, _, .nil, p => Or.inl ⟨rfl, rfl⟩
  | kv :: _, pt :: _, .cons h r, p => by
    by_cases e : pt.1 = p
    · refine Or.inr ⟨pt.2, kv.2, if_pos e, valV_pos (h.1.trans (by rw [e])), h.2⟩
    · have e2 : ¬ kv.1 = kS p := fun z => e (kS_inj (h.1.symm.trans z))
      rcases StA.get r p with ⟨a, b⟩ | ⟨t, v, a, b, c⟩
      · exact Or.inl ⟨(if_neg e).trans a, (valV_neg e2).trans b⟩
      · exact Or.inr ⟨t, v, (if_neg e).trans a, (valV_neg e2).trans b, c⟩
theorem StA.put {K : PySem.W.Frag} {H : Hp} {p : Path} {t : Th} {v : V} (hv : TkV K H v (thV t)) : ∀ {kvs : List (Key × V)} {st : List (Path × Th)}, StA K H kvs st → (st.map (·.1)).Nodup → StA K H (putK kvs (kS p) v) (store st p t)
  | _, _, .nil, _ => .cons ⟨rfl, hv⟩ .nil
  | kv :: kvs, pt :: st, .cons h r, nd => by
    rw [List.map_cons, List.nodup_cons] at nd
    rw [putK_cons]
    unfold store
    by_cases e : pt.1 = p
    · have e2 : kv.1 = kS p := h.1.trans (by rw [e])
      rw [if_pos e, if_pos e2]
      refine .cons ⟨e2, hv⟩ ?_
      have id : kvs.map (fun kv => if kv.1 = kS p then (kv.1, v) else kv) = kvs := by
        conv => rhs; rw [← List.map_id kvs]
        refine List.map_congr_left fun q hq => ?_
        have ne : ¬ q.1 = kS p := fun z => by
          obtain ⟨i, hi⟩ := List.getElem?_of_mem hq
          obtain ⟨s, hs, a, _⟩ := paired_get r hi
          have es : s.1 = p := kS_inj (a.symm.trans z)
          exact nd.1 (e ▸ es ▸ List.mem_map_of_mem (f := (·.1)) (List.mem_of_getElem? hs))
        rw [if_neg ne]
        rfl
      rw [id]
      exact r
    · have e2 : ¬ kv.1 = kS p := fun z => e (kS_inj (h.1.symm.trans z))
      rw [if_neg e, if_neg e2]
      exact .cons h (StA.put hv r nd.2)
structure HAt (K : PySem.W.Frag) (a : Ad) (H : Hp) (p dx st fi ro : Addr) (S : HS) : Prop where
  obj : H p = some (.ins a.cHouse dx [("standing", .ref st), ("files", .ref fi), ("rows", .ref ro)])
  ne : st ≠ fi
  std : ∃ kvs, H st = some (.dK kvs) ∧ StA K H kvs S.st
  fls : ∃ kvs, H fi = some (.dK kvs) ∧ FsA K H kvs S.fs
  rws : ∃ rs, H ro = some (.lst rs)
/-- all but those stay -/
def ExO (W : List Addr) (H H' : Hp) : Prop := ∀ b o, H b = some o → b ∉ W → H' b = some o
theorem ExO.refl {W : List Addr} (H : Hp) : ExO W H H := fun _ _ h _ => h
theorem ExO.trans {W : List Addr} {H H1 H2 : Hp} (x : ExO W H H1) (y : ExO W H1 H2) : ExO W H H2 := fun b o h n => y b o (x b o h n) n
theorem ExO.of {W : List Addr} {H H' : Hp} (e : Ex H H') : ExO W H H' := fun b o h _ => e b o h
theorem ExO.put {W : List Addr} {H : Hp} {d : Addr} {o : HO} (h : d ∈ W) : ExO W H (upd H d o) := fun b u hb n => by
  rw [upd_ne (fun z : b = d => n (by rw [z]; exact h))]
  exact hb
structure HouF (K : PySem.W.Frag) (a : Ad) : Prop where
  cl : ClF K a.cHouse ["standing", "files", "rows"]
  made : ∀ H, SqT K H a.aMADE [.str "directory", vN 493, vN 0]
section
variable {P : Program} {w : World} {K : PySem.W.Frag} {mg : Str → Option Value} {base : Heap} {a : Ad}
abbrev nm_House___init : List Str := ["self"]
theorem sc_House___init : FnScope nm_House___init ["self"] (defScope s_House___init) := fnScope_by (by decide +kernel)
theorem ok_House_init (F2 : HouF K a) {f : Addr} {fd : FuncData} (F : C8.Fun K "__init__" "House.__init__" s_House___init f fd) (M : Mk K a.cHouse f) (hm : mg "House" = some (.ref a.cHouse)) (b : Binds K fd ["self"] []) :
    Mak P w K mg base 1 "House" a.cHouse (fun vs H Q _ => ∃ x dx, vs = [.ref x] ∧ H x = some (.ins a.cHouse dx []) ∧ ∀ st fi ro H', ExB x H H' → H st = none → H fi = none → HAt K a H' x dx st fi ro .emp → Q .non H') [] := by
  refine C8.mak0 (k := 0) M hm F b .nil sc_House___init (fun vs H Q E h => by obtain ⟨x, dx, rfl, _⟩ := h; rfl) fun cdv A outer s H vs Q E hr h => ⟨_, (pss_cons (ps_fld (pv 0) pe_dnewK rfl)
    (pss_cons (ps_fld (pv 0) pe_dnewK rfl)
    (pss_one (ps_fld (pv 0) (pe_lst pa_nil) rfl)))), ?_⟩
  obtain ⟨x, dx, rfl, hx, k⟩ := h
  have no : ∀ f ∈ (["standing", "files", "rows"] : List Str), NoAttr K a.cHouse f := F2.cl.no
  refine q_fldP ep_newD (ev_var rfl) hx F2.cl.cl (no "standing" (by decide)) (by simp) fun y H1 e1 hy => ?_
  obtain ⟨H0, f1, f2, st, rfl, hst, hst2⟩ := hy
  have hxs : x ≠ st := fun z => by rw [← z, hx] at hst; cases hst
  refine q_fldP ep_newD (ev_var rfl) upd_same F2.cl.cl (no "files" (by decide)) (show (1 : Nat) < 1000 by decide) fun y H2 e2 hy => ?_
  obtain ⟨H3, f3, f4, fi, rfl, hfi, hfi2⟩ := hy
  have hxf : x ≠ fi := fun z => by rw [← z, upd_same] at hfi; cases hfi
  have hsf : st ≠ fi := fun z => by rw [← z, upd_ne (Ne.symm hxs), f2 _ _ hst2] at hfi; cases hfi
  refine s_fldP ep_newL (ev_var rfl) upd_same F2.cl.cl (no "rows" (by decide)) (show (2 : Nat) < 1000 by decide) fun y H4 e4 hy => ?_
  obtain ⟨H5, f5, f6, ro, rfl, hro, hro2⟩ := hy
  have hxr : x ≠ ro := fun z => by rw [← z, upd_same] at hro; cases hro
  have b : ExB x H H4 := ((((ExB.of e1).trans ExB.put).trans (ExB.of e2)).trans ExB.put).trans (ExB.of e4)
  have g1 : H4 st = some (.dK []) := e4 _ _ (by rw [upd_ne (Ne.symm hxs)]; exact e2 _ _ (by rw [upd_ne (Ne.symm hxs)]; exact f2 _ _ hst2))
  have g2 : H4 fi = some (.dK []) := e4 _ _ (by rw [upd_ne (Ne.symm hxf)]; exact f4 _ _ hfi2)
  have hfi0 : H fi = none := by
    cases q : H fi with
    | none => rfl
    | some o => rw [upd_ne (Ne.symm hxf), e1 _ _ q] at hfi; cases hfi
  refine k st fi ro _ (b.trans ExB.put) hst hfi0 ⟨upd_same, hsf, ⟨[], by rw [upd_ne (Ne.symm hxs)]; exact g1, .nil⟩, ⟨[], by rw [upd_ne (Ne.symm hxf)]; exact g2, rfl, fun i f h => by simp [HS.emp] at h⟩, ⟨[], by rw [upd_ne (Ne.symm hxr)]; exact f6 _ _ hro2⟩⟩
abbrev nm_House_set_thing : List Str := ["self", "path", "thing"]
theorem sc_House_set_thing : FnScope nm_House_set_thing ["self", "path", "thing"] (defScope s_House_set_thing) := fnScope_by (by decide +kernel)
def setE (S : HS) (p : Path) : En → HS | .fil d mo ti => S.setF p ⟨d, mo, ti⟩ | .dir mo ti => S.setT p (.dir mo ti) | .sym g mo ti => S.setT p (.sym g mo ti) | .lnk _ => S
def spSet (K : PySem.W.Frag) (a : Ad) : Sp := fun vs H Q _ => ∃ p dx st fi ro S path b e, vs = [.ref p, vS path, .ref b] ∧ HAt K a H p dx st fi ro S ∧ S.Wf 50 ∧ path ∈ labels ∧ TK K H b (enV e) ∧ (∀ q, e ≠ .lnk q) ∧ ∀ H', ExO [st, fi] H H' → HAt K a H' p dx st fi ro (setE S path e) → Q .non H'
theorem wf_len {S : HS} {n : Nat} (W : S.Wf n) : S.st.length ≤ 8 := by
  have h1 : (S.st.map (·.1)).length ≤ labels.length := by
    have := (srt_perm (fun k hk => by obtain ⟨kv, h, rfl⟩ := List.mem_map.1 hk; exact W.sub kv h) W.nd).length_eq
    rw [← this]
    exact List.length_filter_le _ _
  rw [List.length_map] at h1
  exact h1
theorem ok_set_thing (T : Txt K mg a) (F2 : HouF K a) {f : Addr} {fd : FuncData} (F : C8.Fun K "set_thing" "House.set_thing" s_House_set_thing f fd) (me : Meth K a.cHouse "set_thing" f) (b : Binds K fd ["self", "path", "thing"] []) : Met P w K mg base 1 a.cHouse "set_thing" (spSet K a) [] := by
  refine C8.met0 F2.cl.cl me F b sc_House_set_thing (fun vs H Q E h => by obtain ⟨p, dx, st, fi, ro, S, path, b, e, rfl, _⟩ := h; rfl) fun cdv A outer s H vs Q E hr h => ⟨_, (pss_cons (ps_if (pt_cmpR op_eq (pe_ix ix_seq (pv 2) pe_int (fun _ _ => rfl)) pe_str (nomark _)) (pss_cons (ps_dput (hu_of hr) (pe_fld (pv 0) rfl) (pe_callB call_lenD (by rfl) T.b_len PySem.boot_len (pa_cons (pe_fld (pv 0) rfl) pa_nil)) (pv 2) rfl)
    (pss_one (ps_set (i := 2) sc_House_set_thing.nd rfl (Or.inl rfl) (pe_tup (pa_cons pe_str (pa_cons (pe_op op_sub (pe_callB call_lenD (by rfl) T.b_len PySem.boot_len (pa_cons (pe_fld (pv 0) rfl) pa_nil)) pe_int) pa_nil)))))) pss_nil)
    (pss_one (ps_dput (hu_of hr) (pe_fld (pv 0) rfl) (pv 1) (pv 2) rfl))), ?_⟩
  obtain ⟨p, dx, st, fi, ro, S, path, b, e, rfl, hh, W, hlb, hb, ne, k⟩ := h
  obtain ⟨ho, hne, ⟨kvs, h1, h2⟩, ⟨fvs, h3, h4⟩, ⟨rs, h5⟩⟩ := hh
  have no : ∀ f ∈ (["standing", "files", "rows"] : List Str), NoAttr K a.cHouse f := F2.cl.no
  have l8 := wf_len W
  have lk : kvs.length ≤ 8 := by rw [paired_len h2]; exact l8
  have lf : fvs.length ≤ 50 := by rw [h4.1]; exact W.len
  have pst : p ≠ st := fun z => by rw [← z, ho] at h1; cases h1
  have pfi : p ≠ fi := fun z => by rw [← z, ho] at h3; cases h3
  have rst : ro ≠ st := fun z => by rw [← z, h5] at h1; cases h1
  have rfi : ro ≠ fi := fun z => by rw [← z, h5] at h3; cases h3
  have kd : ∃ w0 ws, enV e = .str w0 :: ws := by cases e <;> exact ⟨_, _, rfl⟩
  obtain ⟨w0, ws, ek⟩ := kd
  have sq : ∀ {H1}, Ex H H1 → SqT K H1 b (.str w0 :: ws) := fun e1 => ek ▸ (hb.mono (a := a) (ExT.of e1)).sq
  have T1 : EvT (tTest (tOp rEq (tOp (rIx K) (tVar 2) (tC (V.int 0))) (tC (V.str "file")))) (L2.start nm_House_set_thing [.ref p, vS path, .ref b]) H (decide (V.str w0 = V.str "file")) := et_eq (ev_op (ev_var rfl) ev_c (rv_ixt (sq (Ex.refl H)) atI0)) ev_c rfl
  refine q_if T1 (fun hw H1 e1 => ?_) (fun hw H1 e1 => ?_)
  · cases e with
    | dir mo ti => cases ek; exact absurd hw (by decide)
    | sym g mo ti => cases ek; exact absurd hw (by decide)
    | lnk q => exact absurd rfl (ne q)
    | fil d mo ti =>
      refine q_dput (k0 := .inl (fvs.length : Int)) (kvs := fvs) (ev_var rfl) (ev_fld (ev_var rfl) (e1 _ _ ho) F2.cl.cl (no "files" (by decide)) rfl) (ev_lenD (ev_fld (ev_var rfl) (e1 _ _ ho) F2.cl.cl (no "files" (by decide)) rfl) (e1 _ _ h3)) (e1 _ _ h3) (by omega) fun H2 e2 => ?_
      have none2 : valV fvs (.inl (fvs.length : Int)) = none := by
        unfold valV
        rw [List.find?_eq_none.2 fun q hq => ?_]
        · rfl
        · obtain ⟨i, hi⟩ := List.getElem?_of_mem hq
          have li : i < S.fs.length := by rw [← h4.1]; exact (List.getElem?_eq_some_iff.1 hi).1
          obtain ⟨v, e3, _⟩ := h4.2 i _ (List.getElem?_eq_getElem li)
          rw [hi] at e3
          cases Option.some.inj e3
          simp only [decide_eq_true_eq]
          intro z
          have : (i : Int) = (fvs.length : Int) := by injection z
          rw [h4.1] at this
          omega
      rw [putK_new _ none2]
      have e12 := e1.trans e2
      have hp2 : upd H2 fi (.dK (fvs ++ [(.inl (fvs.length : Int), .ref b)])) p = some (.ins a.cHouse dx [("standing", .ref st), ("files", .ref fi), ("rows", .ref ro)]) := by rw [upd_ne pfi]; exact e12 _ _ ho
      refine s_asgU (eu_tup (ea_cons ev_c (ea_cons (ev_I (g := fun i j => i - j) (ev_lenD (ev_fld (ev_var rfl) hp2 F2.cl.cl (no "files" (by decide)) rfl) upd_same) ev_c) ea_nil)) (by simp)) fun t H3 ht e3 h6 => ?_
      have hp3 := e3 _ _ hp2
      have hst3 : H3 st = some (.dK kvs) := e3 _ _ (by rw [upd_ne hne]; exact e12 _ _ h1)
      refine s_dput (k0 := kS path) (ev_var rfl) (ev_fld (ev_var rfl) hp3 F2.cl.cl (no "standing" (by decide)) rfl) (ev_var rfl) hst3 (by omega) fun H4 e4 => ?_
      have up : ExO [st, fi] H (upd H4 st (.dK (putK kvs (kS path) (.ref t)))) := ((((ExO.of e12).trans (ExO.put (by simp))).trans (ExO.of e3)).trans (ExO.of e4)).trans (ExO.put (by simp))
      have tT : ExT a H (upd H4 st (.dK (putK kvs (kS path) (.ref t)))) := ((((ExT.of e12).trans (ExT.put (e12 _ _ h3) stay_dK)).trans (ExT.of e3)).trans (ExT.of e4)).trans (ExT.put (e4 _ _ hst3) stay_dK)
      refine k _ up ⟨?_, hne, ⟨_, upd_same, ?_⟩, ⟨fvs ++ [(.inl (fvs.length : Int), .ref b)], ?_, ?_⟩, ⟨rs, ?_⟩⟩
      · rw [upd_ne pst]; exact e4 _ _ hp3
      · refine StA.put ⟨t, rfl, Or.inl ?_⟩ (h2.mono tT) W.nd
        rw [upd_ne (fun z => by rw [z, hst3] at h6; cases h6), e4 _ _ h6]
        have : (((fvs ++ [((.inl (fvs.length : Int) : Key), V.ref b)]).length : Nat) : Int) - 1 = (S.fs.length : Int) := by
          rw [List.length_append, List.length_singleton, h4.1]; omega
        rw [this]
        rfl
      · rw [upd_ne (Ne.symm hne)]
        exact e4 _ _ (e3 _ _ upd_same)
      · refine ⟨by rw [List.length_append, List.length_singleton, h4.1]; show _ = (S.fs ++ [_]).length; rw [List.length_append]; rfl, fun i f hf => ?_⟩
        have hf : (S.fs ++ [⟨d, mo, ti⟩])[i]? = some f := hf
        rcases Nat.lt_trichotomy i S.fs.length with q | q | q
        · rw [List.getElem?_append_left q] at hf
          obtain ⟨v, x1, x2⟩ := h4.2 i f hf
          exact ⟨v, by rw [List.getElem?_append_left (by rw [h4.1]; exact q)]; exact x1, x2.mono tT⟩
        · rw [q, List.getElem?_append_right (Nat.le_refl _), Nat.sub_self] at hf
          cases Option.some.inj hf
          exact ⟨.ref b, by rw [List.getElem?_append_right (by rw [h4.1, q]; exact Nat.le_refl _), q, h4.1, Nat.sub_self]; rfl, b, rfl, hb.mono tT⟩
        · rw [List.getElem?_eq_none (by rw [List.length_append, List.length_singleton]; omega)] at hf
          cases hf
      · rw [upd_ne rst]
        exact e4 _ _ (e3 _ _ (by rw [upd_ne rfi]; exact e12 _ _ h5))
  · refine s_dput (k0 := kS path) (ev_var rfl) (ev_fld (ev_var rfl) (e1 _ _ ho) F2.cl.cl (no "standing" (by decide)) rfl) (ev_var rfl) (e1 _ _ h1) (by omega) fun H4 e4 => ?_
    have e14 := e1.trans e4
    have up : ExO [st, fi] H (upd H4 st (.dK (putK kvs (kS path) (.ref b)))) := (ExO.of e14).trans (ExO.put (by simp))
    have tT : ExT a H (upd H4 st (.dK (putK kvs (kS path) (.ref b)))) := (ExT.of e14).trans (ExT.put (e14 _ _ h1) stay_dK)
    have go : ∀ t, enV e = thV t → HAt K a (upd H4 st (.dK (putK kvs (kS path) (.ref b)))) p dx st fi ro (S.setT path t) := fun t et => by
      refine ⟨by rw [upd_ne pst]; exact e14 _ _ ho, hne, ⟨_, upd_same, StA.put ⟨b, rfl, et ▸ hb.mono tT⟩ (h2.mono tT) W.nd⟩, ⟨fvs, by rw [upd_ne (Ne.symm hne)]; exact e14 _ _ h3, h4.mono tT⟩, ⟨rs, by rw [upd_ne rst]; exact e14 _ _ h5⟩⟩
    cases e with
    | dir mo ti => exact k _ up (go _ rfl)
    | sym g mo ti => exact k _ up (go _ rfl)
    | lnk q => exact absurd rfl (ne q)
    | fil d mo ti => cases ek; exact absurd hw (by decide)
theorem thV_kd (t : Th) : ∃ ws, thV t = .str (Th.kd (some t)) :: ws := by cases t <;> exact ⟨_, rfl⟩
abbrev nm_House_has : List Str := ["self", "path"]
theorem sc_House_has : FnScope nm_House_has ["self", "path"] (defScope s_House_has) := fnScope_by (by decide +kernel)
def spHas (K : PySem.W.Frag) (a : Ad) : List V → Hp → V → Prop := fun vs H z => ∃ p dx st fi ro S path, vs = [.ref p, vS path] ∧ HAt K a H p dx st fi ro S ∧ z = .bl (S.get path).isSome
theorem get_val {H : Hp} {kvs : List (Key × V)} {S : HS} (h : StA K H kvs S.st) (p : Path) : (valV kvs (kS p)).isSome = (S.get p).isSome := by
  rcases h.get p with ⟨x, y⟩ | ⟨t, v, x, y, _⟩
  · rw [y]; show _ = (look S.st p).isSome; rw [x]; rfl
  · rw [y]; show _ = (look S.st p).isSome; rw [x]; rfl
theorem ok_has (T : Txt K mg a) (F2 : HouF K a) {f : Addr} {fd : FuncData} (F : C8.Fun K "has" "House.has" s_House_has f fd) (me : Meth K a.cHouse "has" f) (b : Binds K fd ["self", "path"] []) : Met P w K mg base 1 a.cHouse "has" (spV 2 (spHas K a)) [] := by
  refine C8.met0 F2.cl.cl me F b sc_House_has (fun _ _ _ _ h => h.1) fun cdv A outer s H vs Q E hr h => ⟨_, (pss_one (ps_ret (pe_and (pe_callB call_isi (by rfl) T.b_isinstance (by decide +kernel) (pa_cons (pv 1) (pa_cons (pe_bltn (v := .ty "str") (by rfl) T.b_str (by decide +kernel) rfl) pa_nil))) (pe_one (pe_cmp (pc_din (hu_of hr) (pv 1) (pe_fld (pv 0) rfl))))))), ?_⟩
  obtain ⟨_, _, ⟨p, dx, st, fi, ro, S, path, rfl, hh, rfl⟩, k⟩ := h
  obtain ⟨ho, hne, ⟨kvs, h1, h2⟩, _, _⟩ := hh
  refine s_ret (v := .bl (S.get path).isSome) (ev_is (ev_andV (a := true) (b := (S.get path).isSome) (ev_isiB (n := "str") (b := true) (ev_var rfl) (.base (.str _)) (by decide +kernel)) fun _ => ev_is (ev_din (k0 := kS path) (ev_var rfl) (ev_fld (ev_var rfl) ho F2.cl.cl (F2.cl.no "standing" (by decide)) rfl) h1) (by rw [get_val h2])) rfl) k
/-- what a method of an instance gives -/
theorem ev_mt {σ : L2.St} {H : Hp} {ta : TE} {tl : TA} {C : Addr} {m : Str} {n : Nat} {R : List V → Hp → V → Prop} {E : XK} {p dx : Addr} {fs : List (Str × V)} {vs : List V} {z : V} (ha : Ev ta σ H (.ref p)) (ho : H p = some (.ins C dx fs)) (hl : fs.lookup m = none) (hv : EvA tl σ H vs) (l : (V.ref p :: vs).length = n) (hr : ∀ H1, Ex H H1 → R (.ref p :: vs) H1 z) : Ev (tMeth C m (spV n R) [] E ta tl) σ H z := fun H1 e Q q =>
  ha H1 e _ fun H2 e2 => ⟨p, dx, fs, rfl, e2 p _ (e p _ ho), hl, hv H2 (e.trans e2) _ fun H3 e3 => by
    rw [List.append_nil]
    exact ⟨l, z, hr H3 ((e.trans e2).trans e3), fun H4 e4 => q H4 ((e2.trans e3).trans e4)⟩⟩
theorem HAt.mono {H H' : Hp} {p dx st fi ro : Addr} {S : HS} (e : Ex H H') (h : HAt K a H p dx st fi ro S) : HAt K a H' p dx st fi ro S :=
  let ⟨kvs, h1, h2⟩ := h.std
  let ⟨fvs, h3, h4⟩ := h.fls
  let ⟨rs, h5⟩ := h.rws
  ⟨e _ _ h.obj, h.ne, ⟨kvs, e _ _ h1, h2.mono (a := a) (ExT.of e)⟩, ⟨fvs, e _ _ h3, h4.mono (a := a) (ExT.of e)⟩, ⟨rs, e _ _ h5⟩⟩
abbrev nm_House_kind_at : List Str := ["self", "path"]
theorem sc_House_kind_at : FnScope nm_House_kind_at ["self", "path"] (defScope s_House_kind_at) := fnScope_by (by decide +kernel)
def spKind (K : PySem.W.Frag) (a : Ad) : List V → Hp → V → Prop := fun vs H z => ∃ p dx st fi ro S path, vs = [.ref p, vS path] ∧ HAt K a H p dx st fi ro S ∧ z = .str (S.kd path)
theorem ok_kind_at (T : Txt K mg a) (F2 : HouF K a) {f : Addr} {fd : FuncData} (F : C8.Fun K "kind_at" "House.kind_at" s_House_kind_at f fd) (me : Meth K a.cHouse "kind_at" f) (b : Binds K fd ["self", "path"] []) (c_House_has : Met P w K mg base 1 a.cHouse "has" (spV 2 (spHas K a)) []) : Met P w K mg base 2 a.cHouse "kind_at" (spV 2 (spKind K a)) [] := by
  refine C8.met0 F2.cl.cl me F b sc_House_kind_at (fun _ _ _ _ h => h.1) fun cdv A outer s H vs Q E hr h => ⟨_, (pss_one (ps_ret (pe_ifExp (pt_val (C8.pe_mt c_House_has hr (by decide) (pv 0) (pa_cons (pv 1) pa_nil))) (pe_ix ix_seq (pe_dget (hu_of hr) (pe_fld (pv 0) rfl) (pv 1) (fun _ _ => rfl)) pe_int (fun _ _ => rfl)) pe_str))), ?_⟩
  obtain ⟨_, _, ⟨p, dx, st, fi, ro, S, path, rfl, hh, rfl⟩, k⟩ := h
  obtain ⟨kvs, h1, h2⟩ := hh.std
  refine s_ret (v := .str (S.kd path)) (ev_if (b := (S.get path).isSome) (et_B (ev_mt (ev_var rfl) hh.obj rfl (ea_cons (ev_var rfl) ea_nil) rfl fun H1 e1 => ⟨p, dx, st, fi, ro, S, path, rfl, hh.mono e1, rfl⟩)) (fun hb => ?_) fun hb => ?_) k
  · rcases h2.get path with ⟨x, y⟩ | ⟨t, v, x, y, c, rfl, z⟩
    · rw [show S.get path = none from x] at hb; cases hb
    · obtain ⟨ws, et⟩ := thV_kd t
      rw [et] at z
      rw [show S.kd path = Th.kd (some t) from congrArg Th.kd x]
      exact ev_op (ev_dget (k0 := kS path) (ev_fld (ev_var rfl) hh.obj F2.cl.cl (F2.cl.no "standing" (by decide)) rfl) (ev_var rfl) h1 y) ev_c (fun H1 e Q q => rv_ixt (z.mono (a := a) (ExT.of e)).sq atI0 H1 (Ex.refl H1) Q q)
  · have e : S.get path = none := by
      cases q : S.get path with
      | none => rfl
      | some t => rw [q] at hb; cases hb
    rw [show S.kd path = "absent" from congrArg Th.kd e]
    exact ev_c
abbrev nm_House_entries : List Str := ["self"]
theorem sc_House_entries : FnScope nm_House_entries ["self"] (defScope s_House_entries) := fnScope_by (by decide +kernel)
def RowsA (K : PySem.W.Frag) (H : Hp) : List V → List (Path × En) → Prop := Paired fun v r => ∃ b t, v = .ref b ∧ H b = some (.tup [vS r.1, t]) ∧ TkV K H t (enV r.2)
theorem RowsA.mono {H H' : Hp} {rs : List V} {rows : List (Path × En)} (e : ExT a H H') (h : RowsA K H rs rows) : RowsA K H' rs rows := Paired.mapP h fun _ _ z => let ⟨b, t, e1, e2, e3⟩ := z; ⟨b, t, e1, e _ _ e2 (Or.inl ⟨_, rfl⟩), e3.mono e⟩
theorem ok_entries (T : Txt K mg a) (F2 : HouF K a) {f : Addr} {fd : FuncData} (F : C8.Fun K "entries" "House.entries" s_House_entries f fd) (me : Meth K a.cHouse "entries" f) (b : Binds K fd ["self"] []) :
    Met P w K mg base 1 a.cHouse "entries" (fun vs H Q _ => ∃ p dx st fi ro S rs, vs = [.ref p] ∧ HAt K a H p dx st fi ro S ∧ H ro = some (.lst rs) ∧ ∀ q H', H q = none → Ex H H' → H' q = some (.lst rs) → Q (.ref q) H') [] := by
  refine C8.met0 F2.cl.cl me F b sc_House_entries (fun vs H Q E h => by obtain ⟨p, dx, st, fi, ro, S, rs, rfl, _⟩ := h; rfl) fun cdv A outer s H vs Q E hr h => ⟨_, (pss_one (ps_ret (pe_callTy call_list_of (by rfl) T.b_list (by decide +kernel) (pa_cons (pe_fld (pv 0) rfl) pa_nil)))), ?_⟩
  obtain ⟨p, dx, st, fi, ro, S, rs, rfl, hh, h1, k⟩ := h
  refine s_retL (xs := rs) (el_cb (ea_cons (ev_fld (ev_var rfl) hh.obj F2.cl.cl (F2.cl.no "rows" (by decide)) rfl) ea_nil) fun H1 e1 Q q => ⟨ro, rs, rfl, Or.inl (sq_of (e1 _ _ h1)), fun l hl => q l _ hl (Ex.new hl) upd_same⟩) fun q H1 hq e1 h2 => k q H1 hq e1 h2
abbrev nm_House_share : List Str := ["self", "path", "target"]
theorem sc_House_share : FnScope nm_House_share ["self", "path", "target"] (defScope s_House_share) := fnScope_by (by decide +kernel)
theorem ok_share (T : Txt K mg a) (F2 : HouF K a) {f : Addr} {fd : FuncData} (F : C8.Fun K "share" "House.share" s_House_share f fd) (me : Meth K a.cHouse "share" f) (b : Binds K fd ["self", "path", "target"] []) :
    Met P w K mg base 1 a.cHouse "share" (fun vs H Q _ => ∃ p dx st fi ro S path g t, vs = [.ref p, vS path, vS g] ∧ HAt K a H p dx st fi ro S ∧ S.Wf 50 ∧ S.get g = some t ∧ ∀ H', ExO [st, fi] H H' → HAt K a H' p dx st fi ro (S.setT path t) → Q .non H') [] := by
  refine C8.met0 F2.cl.cl me F b sc_House_share (fun vs H Q E h => by obtain ⟨p, dx, st, fi, ro, S, path, g, t, rfl, _⟩ := h; rfl) fun cdv A outer s H vs Q E hr h => ⟨_, (pss_one (ps_dput (hu_of hr) (pe_fld (pv 0) rfl) (pv 1) (pe_dget (hu_of hr) (pe_fld (pv 0) rfl) (pv 2) (fun _ _ => rfl)) rfl)), ?_⟩
  obtain ⟨p, dx, st, fi, ro, S, path, g, t, rfl, hh, W, hg, k⟩ := h
  obtain ⟨kvs, h1, h2⟩ := hh.std
  obtain ⟨fvs, h3, h4⟩ := hh.fls
  obtain ⟨rs, h5⟩ := hh.rws
  have ho := hh.obj
  have no := F2.cl.no "standing" (by decide)
  have lk : kvs.length ≤ 8 := by rw [paired_len h2]; exact wf_len W
  rcases h2.get g with ⟨x, y⟩ | ⟨t', v, x, y, z⟩
  · rw [show S.get g = none from x] at hg; cases hg
  · rw [show S.get g = some t' from x] at hg
    cases Option.some.inj hg
    refine s_dput (k0 := kS path) (ev_dget (k0 := kS g) (ev_fld (ev_var rfl) ho F2.cl.cl no rfl) (ev_var rfl) h1 y) (ev_fld (ev_var rfl) ho F2.cl.cl no rfl) (ev_var rfl) h1 (by omega) fun H4 e4 => ?_
    have tT : ExT a H (upd H4 st (.dK (putK kvs (kS path) v))) := (ExT.of e4).trans (ExT.put (e4 _ _ h1) stay_dK)
    refine k _ ((ExO.of e4).trans (ExO.put (by simp))) ⟨?_, hh.ne, ⟨_, upd_same, StA.put (z.mono tT) (h2.mono tT) W.nd⟩, ⟨fvs, ?_, h4.mono tT⟩, ⟨rs, ?_⟩⟩
    · rw [upd_ne (fun q => by rw [← q, ho] at h1; cases h1)]; exact e4 _ _ ho
    · rw [upd_ne (Ne.symm hh.ne)]; exact e4 _ _ h3
    · rw [upd_ne (fun q => by rw [← q, h5] at h1; cases h1)]; exact e4 _ _ h5
abbrev nm_House_settle : List Str := ["self", "found", "first", "path", "thing"]
theorem sc_House_settle : FnScope nm_House_settle ["self"] (defScope s_House_settle) := fnScope_by (by decide +kernel)
def thE : Th → En | .dir mo ti => .dir mo ti | .sym g mo ti => .sym g mo ti | .fil _ => .lnk []
theorem FsA.val {H : Hp} {kvs : List (Key × V)} {fs : List Fi} {j : Nat} {f : Fi} (h : FsA K H kvs fs) (hf : fs[j]? = some f) : ∃ v, valV kvs (.inl (j : Int)) = some v ∧ TkV K H v (fiV f) := by
  obtain ⟨v, h1, h2⟩ := h.2 j f hf
  have hj : j < kvs.length := (List.getElem?_eq_some_iff.1 h1).1
  refine ⟨v, ?_, h2⟩
  have e : kvs.find? (fun kv => decide (kv.1 = .inl (j : Int))) = some (.inl (j : Int), v) := by
    rw [List.find?_eq_some_iff_getElem]
    refine ⟨by simp, j, hj, (List.getElem?_eq_some_iff.1 h1).2, fun i hi => ?_⟩
    have li : i < fs.length := by rw [← h.1]; omega
    obtain ⟨v2, h3, _⟩ := h.2 i _ (List.getElem?_eq_getElem li)
    rw [(List.getElem?_eq_some_iff.1 h3).2]
    simp only [Bool.not_eq_true', decide_eq_false_iff_not]
    intro z
    have : (i : Int) = (j : Int) := by injection z
    omega
  unfold valV
  rw [e]
  rfl
def FdA (kvs : List (Key × V)) (F : List (Nat × Path)) : Prop := ∀ j : Nat, valV kvs (.inl (j : Int)) = (F.lookup j).map vS
theorem FdA.put {kvs : List (Key × V)} {F : List (Nat × Path)} {i : Nat} {p : Path} (h : FdA kvs F) (hi : F.lookup i = none) : FdA (putK kvs (.inl (i : Int)) (vS p)) (F ++ [(i, p)]) := fun j => by
  rw [valV_put]
  have e : (F ++ [(i, p)]).lookup j = if j = i then some p else F.lookup j := by
    clear h
    induction F with
    | nil =>
      show List.lookup j [(i, p)] = _
      rw [List.lookup_cons]
      by_cases q : j = i
      · simp [q]
      · rw [show (j == i) = false by simpa using q, if_neg q]
    | cons x F ih =>
      rw [List.lookup_cons] at hi
      rw [List.cons_append, List.lookup_cons, List.lookup_cons]
      by_cases q : i = x.1
      · rw [q] at hi; simp at hi
      · have : (i == x.1) = false := by simpa using q
        rw [this] at hi
        by_cases q2 : j = x.1
        · have : ¬ j = i := fun z => q (z.symm.trans q2)
          simp [q2, Ne.symm q]
        · simp only [show (j == x.1) = false by simpa using q2]
          exact ih hi
  rw [e]
  by_cases q : j = i
  · rw [if_pos q, if_pos (by rw [q])]; rfl
  · rw [if_neg q, if_neg (fun z => q (by injection z; omega))]
    exact h j
abbrev spSettle (K : PySem.W.Frag) (a : Ad) : Sp := fun vs H Q _ => ∃ p dx st fi ro S, vs = [.ref p] ∧ HAt K a H p dx st fi ro S ∧ S.Wf 50 ∧ ∀ ro2 rs H', ExB p H H' → HAt K a H' p dx st fi ro2 S → H' ro2 = some (.lst rs) → RowsA K H' rs S.rows → Q .non H'
theorem ok_settle (T : Txt K mg a) (F2 : HouF K a) {f : Addr} {fd : FuncData} (F : C8.Fun K "settle" "House.settle" s_House_settle f fd) (me : Meth K a.cHouse "settle" f) (b : Binds K fd ["self"] []) : Met P w K mg base 1 a.cHouse "settle" (spSettle K a) [] := by
  refine C8.met0 F2.cl.cl me F b sc_House_settle (fun vs H Q E h => by obtain ⟨p, dx, st, fi, ro, S, rfl, _⟩ := h; rfl) fun cdv A outer s H vs Q E hr h => ⟨_, (pss_cons (ps_par (i := 1) (j := 2) (by rfl) sc_House_settle.nd rfl rfl (by decide) rfl rfl (pa_cons (pe_lst pa_nil) (pa_cons pe_dnewK pa_nil)) (by rfl))
    (pss_cons (ps_for PassesOwn.never rfl (pi_list (pe_callB (call_sortedD rfl) (by rfl) T.b_sorted (by decide +kernel) (pa_cons (pe_fld (pv 0) rfl) pa_nil))) (pg_name (i := 3) sc_House_settle.nd rfl (Or.inl rfl)) (pss_cons (ps_set (i := 4) sc_House_settle.nd rfl (Or.inl rfl) (pe_dget (hu_of hr) (pe_fld (pv 0) rfl) (pv 3) (fun _ _ => rfl)))
    (pss_one (ps_if (pt_cmpR op_ne (pe_ix ix_seq (pv 4) pe_int (fun _ _ => rfl)) pe_str (nomark _)) (pss_one (ps_expr (pe_bm PySem.F.plainAttrs_list PySem.F.slot_list_append PySem.F.type_list_append mt_append (pv 1) (pa_cons (pe_tup (pa_cons (pv 3) (pa_cons (pv 4) pa_nil))) pa_nil)))) (pss_one (ps_if (pt_cmp (pc_din (hu_of hr) (pe_ix ix_seq (pv 4) pe_int (fun _ _ => rfl)) (pv 2))) (pss_one (ps_expr (pe_bm PySem.F.plainAttrs_list PySem.F.slot_list_append PySem.F.type_list_append mt_append (pv 1) (pa_cons (pe_tup (pa_cons (pv 3) (pa_cons (pe_tup (pa_cons pe_str (pa_cons (pe_dget (hu_of hr) (pv 2) (pe_ix ix_seq (pv 4) pe_int (fun _ _ => rfl)) (fun _ _ => rfl)) pa_nil))) pa_nil))) pa_nil)))) (pss_cons (ps_dput (hu_of hr) (pv 2) (pe_ix ix_seq (pv 4) pe_int (fun _ _ => rfl)) (pv 3) rfl)
    (pss_one (ps_expr (pe_bm PySem.F.plainAttrs_list PySem.F.slot_list_append PySem.F.type_list_append mt_append (pv 1) (pa_cons (pe_tup (pa_cons (pv 3) (pa_cons (pe_dget (hu_of hr) (pe_fld (pv 0) rfl) (pe_ix ix_seq (pv 4) pe_int (fun _ _ => rfl)) (fun _ _ => rfl)) pa_nil))) pa_nil)))))))))))
    (pss_one (ps_fld (pv 0) (pv 1) rfl)))), ?_⟩
  obtain ⟨p, dx, st, fi, ro, S, rfl, hh, W, k⟩ := h
  obtain ⟨kvs, h1, h2⟩ := hh.std
  obtain ⟨fvs, h3, h4⟩ := hh.fls
  have ho := hh.obj
  have no : ∀ f ∈ (["standing", "files", "rows"] : List Str), NoAttr K a.cHouse f := F2.cl.no
  have lk : kvs.length ≤ 8 := by rw [paired_len h2]; exact wf_len W
  have keys : kvs.map (·.1) = ((S.st.map (·.1)).map sS).map Sum.inr := by
    have : ∀ {kvs : List (Key × V)} {st : List (Path × Th)}, StA K H kvs st → kvs.map (·.1) = ((st.map (·.1)).map sS).map Sum.inr := fun h => by
      induction h with
      | nil => rfl
      | cons x _ ih => rw [List.map_cons, List.map_cons, List.map_cons, List.map_cons, ih, x.1]
    exact this h2
  have sub : ∀ q ∈ S.st.map (·.1), q ∈ labels := fun q hq => by obtain ⟨kv, hk, rfl⟩ := List.mem_map.1 hq; exact W.sub kv hk
  refine q_par ep_newL (fun _ _ _ _ => ep_newD) fun x y H1 H1b e1 e1b hx hy => ?_
  obtain ⟨fo, rfl, hfo, g1⟩ := hx
  obtain ⟨fd2, rfl, hfd, gd⟩ := hy
  have hfo2 : fo ≠ fd2 := fun z => by rw [z, hfd] at g1; cases g1
  have e2 : Ex H H1b := e1.trans e1b
  have hfdH : H fd2 = none := fresh_back e1 hfd
  have g1b : H1b fo = some (.lst []) := e1b _ _ g1
  have srl : (srt (S.st.map (·.1))).length ≤ 8 := List.length_filter_le _ _
  refine q_forNL (xs := (srt (S.st.map (·.1))).map vS) (el_cb (ea_cons (ev_fld (ev_var rfl) (e2 _ _ ho) F2.cl.cl (no "standing" (by decide)) rfl) ea_nil) fun H2 f2 Q q => ⟨st, kvs, (S.st.map (·.1)).map sS, rfl, Rd.of (f2 _ _ (e2 _ _ h1)), keys, by rw [List.length_map, List.length_map]; exact Nat.lt_of_le_of_lt (wf_len W) (by decide), fun ys l hp hs hl => by
      rw [srt_of sub W.nd hp hs, List.map_map]
      exact q l _ hl (Ex.new hl) upd_same⟩)
    (fun sp i σ' H' => H' sp = some (.lst ((srt (S.st.map (·.1))).map vS)) ∧ sp ≠ fo ∧ sp ≠ fd2 ∧ Ex H H' ∧ ∃ rs dkv F done u v, H' fo = some (.lst rs) ∧ H' fd2 = some (.dK dkv) ∧ FdA dkv F ∧ dkv.length ≤ i ∧ rs.length ≤ i ∧ RowsA K H' rs done ∧ done ++ rowsGo S ((srt (S.st.map (·.1))).drop i) F = S.rows ∧ σ' = [some (.ref p), some (.ref fo), some (.ref fd2), u, v])
    (fun sp H2 hsp e3 g2 => ⟨g2, (fun z => by rw [z, g1b] at hsp; cases hsp), (fun z => by rw [z, gd] at hsp; cases hsp), e2.trans e3, [], [], [], [], none, none, e3 _ _ g1b, e3 _ _ gd, fun j => rfl, Nat.le_refl _, Nat.le_refl _, .nil, rfl, rfl⟩)
    (fun sp i σ' H' _ h => sq_of h.1) ?_ ?_
  · rintro sp i x σ' H' hx ⟨hsp, n1, n2, e3, rs, dkv, F, done, u, v, g2, g3, hF, hF2, hr2, hR, hD, rfl⟩
    have hi : i < (srt (S.st.map (·.1))).length := by
      have := (List.getElem?_eq_some_iff.1 hx).1
      rwa [List.length_map] at this
    rw [List.getElem?_map, List.getElem?_eq_getElem hi] at hx
    cases Option.some.inj hx
    have hdrop := List.drop_eq_getElem_cons hi
    have hmem : (srt (S.st.map (·.1)))[i] ∈ srt (S.st.map (·.1)) := List.getElem_mem hi
    generalize (srt (S.st.map (·.1)))[i] = path at hdrop hmem ⊢
    rw [hdrop] at hD
    have hsome := (mem_srt W).1 hmem
    refine show _ from ?_
    rcases h2.get path with ⟨x1, y1⟩ | ⟨t, tv, x1, y1, b2, rfl, z1⟩
    · rw [show S.get path = none from x1] at hsome; cases hsome
    have hget : S.get path = some t := x1
    refine q_asg (v := .ref b2) (ev_dget (k0 := kS path) (ev_fld (ev_var rfl) (e3 _ _ ho) F2.cl.cl (no "standing" (by decide)) rfl) (ev_var rfl) (e3 _ _ h1) y1) fun H2 e4 => ?_
    obtain ⟨ws, et⟩ := thV_kd t
    have sq : ∀ {H3}, Ex H H3 → SqT K H3 b2 (thV t) := fun e5 => (z1.mono (a := a) (ExT.of e5)).sq
    have e34 := e3.trans e4
    have cnt : ∀ {H3 : Hp} {q : Addr} {d : List (Key × V)} {F2 : List (Nat × Path)} {e : En}, Ex H H3 → H3 fo = some (.lst rs) → H3 fd2 = some (.dK d) → H3 sp = some (.lst ((srt (S.st.map (·.1))).map vS)) → RowsA K H3 rs done → (∃ tv2, H3 q = some (.tup [vS path, tv2]) ∧ TkV K H3 tv2 (enV e)) → FdA d F2 → d.length ≤ i + 1 →
        rowsGo S (path :: (srt (S.st.map (·.1))).drop (i + 1)) F = (path, e) :: rowsGo S ((srt (S.st.map (·.1))).drop (i + 1)) F2 → H fo = none →
        (upd H3 fo (.lst (rs ++ [.ref q]))) sp = some (.lst ((srt (S.st.map (·.1))).map vS)) ∧ sp ≠ fo ∧ sp ≠ fd2 ∧ Ex H (upd H3 fo (.lst (rs ++ [.ref q]))) ∧ ∃ rs' dkv F' done' u v, (upd H3 fo (.lst (rs ++ [.ref q]))) fo = some (.lst rs') ∧ (upd H3 fo (.lst (rs ++ [.ref q]))) fd2 = some (.dK dkv) ∧ FdA dkv F' ∧ dkv.length ≤ i + 1 ∧ rs'.length ≤ i + 1 ∧ RowsA K (upd H3 fo (.lst (rs ++ [.ref q]))) rs' done' ∧ done' ++ rowsGo S ((srt (S.st.map (·.1))).drop (i + 1)) F' = S.rows ∧
          [some (V.ref p), some (.ref fo), some (.ref fd2), some (vS path), some (.ref b2)] = [some (V.ref p), some (.ref fo), some (.ref fd2), u, v] := by
      intro H3 q d F3 e f1 f2 f3 f4 f5 f6 f7 f8 f9 f10
      obtain ⟨tv2, f61, f62⟩ := f6
      have tT : ExT a H3 (upd H3 fo (.lst (rs ++ [.ref q]))) := ExT.put f2 stay_lst
      refine ⟨by rw [upd_ne n1]; exact f4, n1, n2, f1.mut f10, rs ++ [.ref q], d, F3, done ++ [(path, e)], _, _, upd_same, by rw [upd_ne (Ne.symm hfo2)]; exact f3, f7, f8, by rw [List.length_append, List.length_singleton]; omega, ?_, ?_, rfl⟩
      · have z := f5.mono tT
        have one : RowsA K (upd H3 fo (.lst (rs ++ [.ref q]))) [.ref q] [(path, e)] := .cons ⟨q, tv2, rfl, tT _ _ f61 (Or.inl ⟨_, rfl⟩), f62.mono tT⟩ .nil
        clear hD
        revert z
        generalize upd H3 fo (.lst (rs ++ [.ref q])) = H9 at one
        intro z
        exact paired_app z one
      · rw [List.append_assoc]
        rw [f9] at hD
        exact hD
    have T1 : EvT (tTest (tOp rNe (tOp (rIx K) (tVar 4) (tC (V.int 0))) (tC (V.str "file")))) [some (.ref p), some (.ref fo), some (.ref fd2), some (vS path), some (.ref b2)] H2 (!decide (V.str (Th.kd (some t)) = V.str "file")) := et_ne (ev_op (ev_var rfl) ev_c (rv_ixt (sq e34) (by rw [et]; exact atI0))) ev_c rfl
    refine s_if T1 (fun hw H3 e5 => ?_) (fun hw H3 e5 => ?_)
    · have e35 := e34.trans e5
      refine s_appU (xs := rs) ((e4.trans e5) _ _ g2) (ev_var rfl) (eu_tup (ea_cons (ev_var rfl) (ea_cons (ev_var rfl) ea_nil)) (by simp)) (by omega) fun q H4 hq e6 h6 => ?_
      have e36 := e35.trans e6
      have e46 := (e4.trans e5).trans e6
      refine cnt (e := thE t) (F2 := F) e36 (e46 _ _ g2) (e46 _ _ g3) (e46 _ _ hsp) (hR.mono (a := a) (ExT.of e46)) ⟨.ref b2, h6, b2, rfl, ?_⟩ hF (by omega) ?_ hfo
      · have zz := z1.mono (a := a) (ExT.of e36)
        cases t with
        | dir mo ti => exact zz
        | sym g mo ti => exact zz
        | fil i => exact absurd (show (!decide (V.str "file" = V.str "file")) = true from hw) (by decide)
      · cases t with
        | dir mo ti => rw [rowsGo]; rw [hget]; rfl
        | sym g mo ti => rw [rowsGo]; rw [hget]; rfl
        | fil i => exact absurd (show (!decide (V.str "file" = V.str "file")) = true from hw) (by decide)
    · cases t with
      | dir mo ti => exact absurd (show (!decide (V.str "directory" = V.str "file")) = false from hw) (by decide)
      | sym g mo ti => exact absurd (show (!decide (V.str "symlink" = V.str "file")) = false from hw) (by decide)
      | fil j =>
      have e35 := e34.trans e5
      have g25 := (e4.trans e5) _ _ g2
      have g35 := (e4.trans e5) _ _ g3
      have ix : ∀ {H4}, Ex H H4 → Ev (tOp (rIx K) (tVar 4) (tC (V.int 1))) [some (.ref p), some (.ref fo), some (.ref fd2), some (vS path), some (.ref b2)] H4 (vN j) := fun f5 => ev_op (ev_var rfl) ev_c (rv_ixt (sq f5) atI1)
      have T2 : EvT (tB (tDIn (tOp (rIx K) (tVar 4) (tC (V.int 1))) (tVar 2))) [some (.ref p), some (.ref fo), some (.ref fd2), some (vS path), some (.ref b2)] H3 (valV dkv (.inl (j : Int))).isSome := et_B (ev_din (k0 := .inl (j : Int)) (ix e35) (ev_var rfl) g35)
      refine s_if T2 (fun hw2 H4 e6 => ?_) (fun hw2 H4 e6 => ?_)
      · obtain ⟨q0, hq0⟩ : ∃ q0, F.lookup j = some q0 := by
          rw [hF j] at hw2
          cases hl : F.lookup j with
          | none => rw [hl] at hw2; cases hw2
          | some q0 => exact ⟨q0, rfl⟩
        have hv : valV dkv (.inl (j : Int)) = some (vS q0) := by rw [hF j, hq0]; rfl
        have e36 := e35.trans e6
        have g36 := e6 _ _ g35
        refine s_appP (xs := rs) (e6 _ _ g25) (ev_var rfl) (ep_tup (Pa := fun vs H' => ∃ c, vs = [vS path, .ref c] ∧ H' c = some (.tup [.str "link", vS q0])) ?_ (fun vs H1 h => by obtain ⟨c, rfl, _⟩ := h; simp) (fun vs H1 H2 e h => by obtain ⟨c, rfl, h⟩ := h; exact ⟨c, rfl, e _ _ h⟩)) (by omega) fun x H5 e7 hx => ?_
        · refine eap_cons (ev_p (ev_var rfl)) fun x H5 e7 hx => ?_
          subst hx
          refine eap_cons (EvU.p (eu_tup (ea_cons ev_c (ea_cons (ev_dget (k0 := .inl (j : Int)) (ev_var rfl) (ix (e36.trans e7)) (e7 _ _ g36) hv) ea_nil)) (by simp))) fun y H6 e8 hy => ?_
          obtain ⟨c, rfl, hc⟩ := hy
          exact eap_nil fun H7 e9 => ⟨c, rfl, e9 _ _ hc⟩
        · obtain ⟨q, vs, rfl, h6, c, rfl, hc⟩ := hx
          have e37 := e36.trans e7
          have e47 := ((e4.trans e5).trans e6).trans e7
          refine cnt (e := .lnk q0) (F2 := F) e37 (e47 _ _ g2) (e47 _ _ g3) (e47 _ _ hsp) (hR.mono (a := a) (ExT.of e47)) ⟨.ref c, h6, c, rfl, Or.inl hc⟩ hF (by omega) ?_ hfo
          rw [rowsGo]; rw [hget]; dsimp only; rw [hq0]
      · have hq0 : F.lookup j = none := by
          rw [hF j] at hw2
          cases hl : F.lookup j with
          | none => rfl
          | some q0 => rw [hl] at hw2; cases hw2
        have e36 := e35.trans e6
        have g36 := e6 _ _ g35
        have hj := W.idx path j hget
        obtain ⟨fv, hfv, z2⟩ := h4.val (List.getElem?_eq_getElem hj)
        refine q_dput (k0 := .inl (j : Int)) (kvs := dkv) (ev_var rfl) (ev_var rfl) (ix e36) g36 (by omega) fun H5 e7 => ?_
        have e37 := e36.trans e7
        have e37b : Ex H (upd H5 fd2 (.dK (putK dkv (.inl (j : Int)) (vS path)))) := e37.mut hfdH
        have e47 := ((e4.trans e5).trans e6).trans e7
        refine s_appU (xs := rs) (by rw [upd_ne hfo2]; exact e47 _ _ g2) (ev_var rfl) (eu_tup (ea_cons (ev_var rfl) (ea_cons (ev_dget (k0 := .inl (j : Int)) (ev_fld (ev_var rfl) (e37b _ _ ho) F2.cl.cl (no "files" (by decide)) rfl) (ix e37b) (e37b _ _ h3) hfv) ea_nil)) (by simp)) (by omega) fun q H6 hq e8 h6 => ?_
        have e38 := e37b.trans e8
        refine cnt (e := .fil (S.fs.getD j ⟨[], 0, 0⟩).d (S.fs.getD j ⟨[], 0, 0⟩).mo (S.fs.getD j ⟨[], 0, 0⟩).ti) (F2 := F ++ [(j, path)]) e38 (e8 _ _ (by rw [upd_ne hfo2]; exact e47 _ _ g2)) (e8 _ _ upd_same) (e8 _ _ (by rw [upd_ne n2]; exact e47 _ _ hsp)) ((hR.mono (a := a) ((ExT.of e47).trans (ExT.put (e7 _ _ g36) stay_dK))).mono (a := a) (ExT.of e8)) ⟨fv, h6, ?_⟩ (hF.put hq0) (Nat.le_trans (length_putK _ _ _) (by omega)) ?_ hfo
        · have : S.fs.getD j ⟨[], 0, 0⟩ = S.fs[j] := by rw [List.getD_eq_getElem?_getD, List.getElem?_eq_getElem hj]; rfl
          rw [this]
          exact z2.mono (a := a) (ExT.of e38)
        · rw [rowsGo]; rw [hget]; dsimp only; rw [hq0]
  · rintro sp σ' H' ⟨hsp, n1, n2, e3, rs, dkv, F, done, u, v, g2, g3, hF, hF2, hr2, hR, hD, rfl⟩
    rw [List.length_map, List.drop_length] at hD
    have hD : done = S.rows := by rw [← hD]; simp [rowsGo]
    refine s_fld (ev_var rfl) (ev_var rfl) (e3 _ _ ho) F2.cl.cl (no "rows" (by decide)) (show (3 : Nat) < 1000 by decide) fun H4 e4 => ?_
    have e34 := e3.trans e4
    have hp : p ≠ st ∧ p ≠ fi := ⟨(fun z => by rw [← z, ho] at h1; cases h1), (fun z => by rw [← z, ho] at h3; cases h3)⟩
    have pfo : fo ≠ p := fun z => by rw [z, ho] at hfo; cases hfo
    have tT : ExT a H4 (upd H4 p (.ins a.cHouse dx (putF "rows" (.ref fo) [("standing", .ref st), ("files", .ref fi), ("rows", .ref ro)]))) := ExT.put (e34 _ _ ho) (fun z => by
      rcases z with ⟨_, q⟩ | ⟨C, _, _, q, n⟩
      · cases q
      · cases q; exact n rfl)
    refine k fo rs _ ((ExB.of e34).trans ExB.put) ⟨upd_same, hh.ne, ⟨kvs, by rw [upd_ne (Ne.symm hp.1)]; exact e34 _ _ h1, (h2.mono (a := a) (ExT.of e34)).mono tT⟩, ⟨fvs, by rw [upd_ne (Ne.symm hp.2)]; exact e34 _ _ h3, (h4.mono (a := a) (ExT.of e34)).mono tT⟩, ⟨rs, by rw [upd_ne pfo]; exact e4 _ _ g2⟩⟩ (by rw [upd_ne pfo]; exact e4 _ _ g2) ?_
    rw [← hD]
    exact (hR.mono (a := a) (ExT.of e4)).mono tT
abbrev spNewH (K : PySem.W.Frag) (a : Ad) : Sp := fun vs H Q _ => ∃ x dx, vs = [.ref x] ∧ H x = some (.ins a.cHouse dx []) ∧ ∀ st fi ro H', ExB x H H' → H st = none → H fi = none → HAt K a H' x dx st fi ro .emp → Q .non H'
theorem ep_House {σ : L2.St} {H : Hp} {E : XK} : EvP (tMake a.cHouse (spNewH K a) [] E tNil) σ H (fun v H' => ∃ q dx st fi ro, v = .ref q ∧ H q = none ∧ H st = none ∧ H fi = none ∧ HAt K a H' q dx st fi ro .emp) := fun H1 e Q k => by
  intro x dx hx hdx hne
  refine ⟨x, dx, rfl, upd_same, fun st fi ro H2 b h1 h2 h3 => ⟨rfl, k _ _ (fun c o hc => ?_) ⟨x, dx, st, fi, ro, rfl, fresh_back e hx, ?_, ?_, h3⟩⟩⟩
  · have cx : c ≠ x := fun z => by rw [z, hx] at hc; cases hc
    have cd : c ≠ dx := fun z => by rw [z, hdx] at hc; cases hc
    exact b c o (by rw [upd_ne cx, upd_ne cd]; exact hc) cx
  · cases q : H st with
    | none => rfl
    | some o =>
      have z := e _ _ q
      by_cases e1 : st = x
      · rw [e1, hx] at z; cases z
      by_cases e2 : st = dx
      · rw [e2, hdx] at z; cases z
      rw [upd_ne e1, upd_ne e2, z] at h1; cases h1
  · cases q : H fi with
    | none => rfl
    | some o =>
      have z := e _ _ q
      by_cases e1 : fi = x
      · rw [e1, hx] at z; cases z
      by_cases e2 : fi = dx
      · rw [e2, hdx] at z; cases z
      rw [upd_ne e1, upd_ne e2, z] at h2; cases h2
abbrev nm_House_copied : List Str := ["self", "made"]
theorem sc_House_copied : FnScope nm_House_copied ["self"] (defScope s_House_copied) := fnScope_by (by decide +kernel)
abbrev spCopied (K : PySem.W.Frag) (a : Ad) : Sp := fun vs H Q _ => ∃ p dx st fi ro S, vs = [.ref p] ∧ HAt K a H p dx st fi ro S ∧ S.Wf 50 ∧ ∀ q dx2 st2 fi2 ro2 rs H', H q = none → H st2 = none → H fi2 = none → Ex H H' → HAt K a H' q dx2 st2 fi2 ro2 S → H' ro2 = some (.lst rs) → RowsA K H' rs S.rows → Q (.ref q) H'
theorem ok_copied (T : Txt K mg a) (F2 : HouF K a) {f : Addr} {fd : FuncData} (F : C8.Fun K "copied" "House.copied" s_House_copied f fd) (me : Meth K a.cHouse "copied" f) (b : Binds K fd ["self"] []) (c_House : Mak P w K mg base 1 "House" a.cHouse (spNewH K a) []) (c_House_settle : Met P w K mg base 1 a.cHouse "settle" (spSettle K a) []) :
    Met P w K mg base 3 a.cHouse "copied" (spCopied K a) [] := by
  refine C8.met0 F2.cl.cl me F b sc_House_copied (fun vs H Q E h => by obtain ⟨p, dx, st, fi, ro, S, rfl, _⟩ := h; rfl) fun cdv A outer s H vs Q E hr h => ⟨_, (pss_cons (ps_set (i := 1) sc_House_copied.nd rfl (Or.inl rfl) (pe_mk0 c_House hr (by decide) rfl))
    (pss_cons (ps_fld (pv 1) (pe_callTy call_dictD (by rfl) T.b_dict (by decide +kernel) (pa_cons (pe_fld (pv 0) rfl) pa_nil)) rfl)
    (pss_cons (ps_fld (pv 1) (pe_callTy call_dictD (by rfl) T.b_dict (by decide +kernel) (pa_cons (pe_fld (pv 0) rfl) pa_nil)) rfl)
    (pss_cons (ps_expr (C8.pe_mt0 c_House_settle hr (by decide) (pv 1)))
    (pss_one (ps_ret (pv 1))))))), ?_⟩
  obtain ⟨p, dx, st, fi, ro, S, rfl, hh, W, k⟩ := h
  have no : ∀ f ∈ (["standing", "files", "rows"] : List Str), NoAttr K a.cHouse f := F2.cl.no
  refine q_asgP ep_House fun x H1 e1 hx => ?_
  obtain ⟨q, dq, st1, fi1, ro1, rfl, hq, hst1, hfi1, hh1⟩ := hx
  obtain ⟨kvs, h1, h2⟩ := hh.std
  obtain ⟨fvs, h3, h4⟩ := hh.fls
  have pq : p ≠ q := fun z => by rw [← z, hh.obj] at hq; cases hq
  refine q_fldP (P := fun v H' => ∃ d, v = .ref d ∧ H1 d = none ∧ H' d = some (.dK kvs)) ?_ (ev_var rfl) hh1.obj F2.cl.cl (no "standing" (by decide)) (show (3 : Nat) < 1000 by decide) fun y H2 e2 hy => ?_
  · intro H2 e2 Q2 q2
    exact (ev_fld (ev_var rfl) (e1 _ _ hh.obj) F2.cl.cl (no "standing" (by decide)) rfl) H2 e2 _ fun H3 e3 => ⟨st, kvs, rfl, Rd.of (e3 _ _ (e2 _ _ (e1 _ _ h1))), fun d hd => q2 _ _ (e3.trans (Ex.new hd)) ⟨d, rfl, fresh_back (e2.trans e3) hd, upd_same⟩⟩
  obtain ⟨H2a, f1, f2, st2, rfl, hst2, gst2⟩ := hy
  have q2 : q ≠ st2 := fun z => by rw [← z, hh1.obj] at hst2; cases hst2
  have hst2H : H st2 = none := fresh_back e1 hst2
  have e2q : Ex H (upd H2 q (.ins a.cHouse dq (putF "standing" (.ref st2) [("standing", .ref st1), ("files", .ref fi1), ("rows", .ref ro1)]))) := (e1.trans e2).mut hq
  refine q_fldP (P := fun v H' => ∃ d, v = .ref d ∧ (upd H2 q (.ins a.cHouse dq (putF "standing" (.ref st2) [("standing", .ref st1), ("files", .ref fi1), ("rows", .ref ro1)]))) d = none ∧ H' d = some (.dK fvs)) ?_ (ev_var rfl) upd_same F2.cl.cl (no "files" (by decide)) (show (3 : Nat) < 1000 by decide) fun y H3 e3 hy => ?_
  · intro H3 e3 Q2 q2
    exact (ev_fld (ev_var rfl) (e2q _ _ hh.obj) F2.cl.cl (no "files" (by decide)) rfl) H3 e3 _ fun H4 e4 => ⟨fi, fvs, rfl, Rd.of (e4 _ _ (e3 _ _ (e2q _ _ h3))), fun d hd => q2 _ _ (e4.trans (Ex.new hd)) ⟨d, rfl, fresh_back (e3.trans e4) hd, upd_same⟩⟩
  obtain ⟨H3a, f3, f4, fi2, rfl, hfi2, gfi2⟩ := hy
  have q3 : q ≠ fi2 := fun z => by rw [← z, upd_same] at hfi2; cases hfi2
  have n23 : st2 ≠ fi2 := fun z => by rw [← z, upd_ne (Ne.symm q2), f2 _ _ gst2] at hfi2; cases hfi2
  have hfi2H : H fi2 = none := fresh_back e2q hfi2
  have e3q := (e2q.trans e3).mut (o := .ins a.cHouse dq (putF "files" (.ref fi2) (putF "standing" (.ref st2) [("standing", .ref st1), ("files", .ref fi1), ("rows", .ref ro1)]))) hq
  have gro : ∃ rs, (upd H3 q (.ins a.cHouse dq (putF "files" (.ref fi2) (putF "standing" (.ref st2) [("standing", .ref st1), ("files", .ref fi1), ("rows", .ref ro1)])))) ro1 = some (.lst rs) := by
    obtain ⟨rs, g⟩ := hh1.rws
    have rq : ro1 ≠ q := fun z => by rw [z, hh1.obj] at g; cases g
    exact ⟨rs, by rw [upd_ne rq]; exact e3 _ _ (by rw [upd_ne rq]; exact e2 _ _ g)⟩
  have hh3 : HAt K a (upd H3 q (.ins a.cHouse dq (putF "files" (.ref fi2) (putF "standing" (.ref st2) [("standing", .ref st1), ("files", .ref fi1), ("rows", .ref ro1)])))) q dq st2 fi2 ro1 S :=
    ⟨upd_same, n23, ⟨kvs, by rw [upd_ne (Ne.symm q2)]; exact e3 _ _ (by rw [upd_ne (Ne.symm q2)]; exact f2 _ _ gst2), h2.mono (a := a) (ExT.of e3q)⟩, ⟨fvs, by rw [upd_ne (Ne.symm q3)]; exact f4 _ _ gfi2, h4.mono (a := a) (ExT.of e3q)⟩, gro⟩
  refine ⟨_, rfl, ?_⟩
  refine ⟨q, dq, _, rfl, hh3.obj, rfl, ⟨q, dq, st2, fi2, ro1, S, rfl, hh3, W, fun ro2 rs H4 b g1 g2 g3 => ?_⟩⟩
  have e4 : Ex H H4 := fun c o hc => b c o (e3q c o hc) (fun z => by rw [z, hq] at hc; cases hc)
  exact s_ret (ev_var rfl) fun H5 e5 => k q dq st2 fi2 ro2 rs H5 hq hst2H hfi2H (e4.trans e5) (g1.mono e5) (e5 _ _ g2) (g3.mono (a := a) (ExT.of e5))
end
end Tl
end

section
set_option Elab.async false
set_option linter.all false
set_option maxRecDepth 100000
set_option maxHeartbeats 4000000
/-! Unpacking. -/
namespace Tl
open PySem PySem.Spec PyProof.Rows L2 Evl
open Tar (By)
open C8 (Cal Met Mak pe_c pe_mk pe_mt pe_mt0 pe_gc fnScope_by)
/-- a promise of a new list -/
def spL (n : Nat) (R : List V → Hp → List V → Prop) : Sp := fun vs H Q _ => vs.length = n ∧ ∃ xs, R vs H xs ∧ ∀ q H', H q = none → Ex H H' → H' q = some (.lst xs) → Q (.ref q) H'
theorem el_callL {σ : L2.St} {H : Hp} {n : Nat} {R : List V → Hp → List V → Prop} {ta : TA} {E : XK} {vs xs : List V} (h : EvA ta σ H vs) (l : vs.length = n) (hr : ∀ H1, Ex H H1 → R vs H1 xs) : EvL (tCall (spL n R) [] E ta) σ H xs := fun H1 e Q q =>
  h H1 e _ fun H2 e2 => by
    rw [List.append_nil]
    exact ⟨l, xs, hr H2 (e.trans e2), fun p H3 hp e3 h3 => q p H3 (fresh_back e2 hp) (e2.trans e3) h3⟩
theorem abv_ok : ∀ p ∈ labels, (List.range ((Txt.split (sS p) "/").length - 1)).map (fun i => Txt.join "/" ((Txt.split (sS p) "/").take (1 + i))) = (abv p).map sS := by decide +kernel
theorem labels_lens : ∀ p ∈ labels, ∀ i < 11, (((Txt.split (sS p) "/").take i).map (·.length)).sum + ((Txt.split (sS p) "/").take i).length * (Str.length "/") ≤ 100000 := by decide +kernel
theorem abv_len (p : Path) : (abv p).length ≤ 2 := by
  unfold abv
  split
  · decide
  · split <;> decide
section
variable {P : Program} {w : World} {K : PySem.W.Frag} {mg : Str → Option Value} {base : Heap} {a : Ad}
abbrev nm_above : List Str := ["path", "parts", "many"]
theorem sc_above : FnScope nm_above ["path"] (defScope s_above) := fnScope_by (by decide +kernel)
abbrev rAbove : List V → Hp → List V → Prop := fun vs _ xs => ∃ p, vs = [vS p] ∧ p ∈ labels ∧ xs = (abv p).map vS
theorem ok_above (T : Txt K mg a) (F : DB K mg "above" s_above ["path"]) : Cal P w K mg base 1 "above" (spL 1 rAbove) [] := by
  refine cal_of F sc_above (fun _ _ _ _ h => h.1) fun f cdv A outer s H vs Q E hr h => ⟨_, (pss_cons (ps_set (i := 1) sc_above.nd rfl (Or.inr rfl) (pe_split (pv 0) pe_str))
    (pss_one (ps_ret (pe_lc (own := [("many", 2)]) (g := (gName 2)) (tt := tYes) rfl sc_above.nd (pi_range2 (by rfl) T.b_range (pa_cons pe_int (pa_cons (pe_callB call_len (by rfl) T.b_len PySem.boot_len (pa_cons (pv 1) pa_nil)) pa_nil))) (blkOk_by (own := [("many", 2)]) (N := nm_above) (sc := defScope s_above) (by decide +kernel)) (fun _ _ _ _ _ => (pg_name (i := 2) sc_above.nd rfl (Or.inl rfl))) (fun _ _ _ _ _ => pts_nil) (fun _ _ _ _ _ => (pe_joinK (K := K) rfl pe_str (pe_slice (sl_listK (K := K) rfl) (pv 1) po_none (po_some (pv 2))))))))), ?_⟩
  obtain ⟨_, _, ⟨p, rfl, hp, rfl⟩, k⟩ := h
  have l2 := names_len (labels_names hp)
  have l10 := labels_split p hp
  have lens : ∀ i, i ≤ 10 → (((Txt.split (sS p) "/").take i).map (·.length)).sum + ((Txt.split (sS p) "/").take i).length * (Str.length "/") ≤ 100000 := fun i hi => labels_lens p hp i (by omega)
  refine q_asgL (xs := (Txt.split (sS p) "/").map V.str) (el_m1 (ev_var rfl) ev_c fun H1 _ Q q => ⟨sS p, "/", rfl, rfl, by decide +kernel, by rw [sS_len, sizeLine_eq]; omega, q⟩) fun q H1 hq e1 h1 => ?_
  have ek := abv_ok p hp
  have fin : (List.range ((Txt.split (sS p) "/").length - 1)).map (fun i => V.str (Txt.join "/" ((Txt.split (sS p) "/").take (1 + i)))) = (abv p).map vS := by
    have e2 := congrArg (List.map V.str) ek
    rw [List.map_map, List.map_map] at e2
    exact e2
  refine s_retL (xs := (abv p).map vS) ?_ fun q2 H2 hq2 e2 h2 => k q2 H2 (fresh_back e1 hq2) (e1.trans e2) h2
  have sl : ((Txt.split (sS p) "/").map V.str).length = (Txt.split (sS p) "/").length := List.length_map ..
  have n1 : (((((Txt.split (sS p) "/").map V.str).length : Nat) : Int) - 1).toNat = (Txt.split (sS p) "/").length - 1 := by rw [sl]; omega
  rw [← fin, ← n1]
  refine el_lc (fun i => V.str (Txt.join "/" ((Txt.split (sS p) "/").take (1 + i)))) (ei_rng2 (ea_cons ev_c (ea_cons (ev_lenL (ev_var rfl) (sq_of h1)) ea_nil)) (by rw [sl]; omega)) (by omega) ex_fn (fun x => rfl) fun i x H3 H4 hi e3 hy => ?_
  obtain ⟨rfl, rfl⟩ := hy
  rw [n1] at hi
  refine ev_join ev_c ?_ (lens (1 + i) (by omega))
  have cut : cutV ((Txt.split (sS p) "/").map V.str) none (some (1 + (i : Int))) = ((Txt.split (sS p) "/").take (1 + i)).map V.str := by
    unfold cutV
    have e1 : HT.sIx ((Txt.split (sS p) "/").map V.str).length 0 none = 0 := rfl
    have e2 : HT.sIx ((Txt.split (sS p) "/").map V.str).length ((Txt.split (sS p) "/").map V.str).length (some (1 + (i : Int))) = 1 + i := by
      rw [sl, show (1 + (i : Int)) = ((1 + i : Nat) : Int) by omega, HT.sIx_nat, Nat.min_eq_left (by omega)]
    rw [e1, e2, List.drop_zero, Nat.sub_zero, List.map_take]
  rw [← cut]
  exact el_sl (ev_var rfl) eo_none (eo_some (ev_var rfl)) (sq_of (e3 _ _ h1))
def tgV : Mem → V | .lnk _ _ _ g => vS g | _ => .str ""
theorem ev_tg {σ : L2.St} {H : Hp} {q : Addr} {m : Mem} {ta : TE} (M : Mcl K a) (hm : MemAt a H q m) (ha : Ev ta σ H (.ref q)) : Ev (tIf (tTest (tOp rEq (tCon K ta "KIND") (tC (.str "link")))) (tFld K ta "target") (tC (.str ""))) σ H (tgV m) := by
  refine ev_if (et_eq (ev_kind M hm ha) ev_c rfl) (fun h => ?_) (fun h => ?_)
  · cases m with
    | lnk n mo ti g => exact ev_mem M hm ha (.tail _ (.tail _ (.tail _ (.tail _ (.head _))))) fun _ _ _ _ => rfl
    | fil n mo ti d => exact absurd (show decide (V.str "file" = V.str "link") = true from h) (by decide)
    | spa n mo ti k x y => exact absurd (show decide (V.str "sparse" = V.str "link") = true from h) (by decide)
    | dir n mo ti => exact absurd (show decide (V.str "directory" = V.str "link") = true from h) (by decide)
    | sym n mo ti g => exact absurd (show decide (V.str "symlink" = V.str "link") = true from h) (by decide)
  · cases m with
    | lnk n mo ti g => exact absurd (show decide (V.str "link" = V.str "link") = false from h) (by decide)
    | fil n mo ti d => exact ev_c
    | spa n mo ti k x y => exact ev_c
    | dir n mo ti => exact ev_c
    | sym n mo ti g => exact ev_c
theorem ev_kd {σ : L2.St} {H : Hp} {p dx st fi ro : Addr} {S : HS} {path : Path} {ta tb : TE} {E : XK} (hh : HAt K a H p dx st fi ro S) (ha : Ev ta σ H (.ref p)) (hb : Ev tb σ H (vS path)) : Ev (tMeth a.cHouse "kind_at" (spV 2 (spKind K a)) [] E ta (tCons tb tNil)) σ H (.str (S.kd path)) :=
  ev_mt ha hh.obj rfl (ea_cons hb ea_nil) rfl fun H1 e1 => ⟨p, dx, st, fi, ro, S, path, rfl, hh.mono e1, rfl⟩
theorem inV2 (x a b : Str) : inV (.str x) [.str a, .str b] = (decide (x = a) || decide (x = b)) := by
  simp only [inV, List.any_cons, List.any_nil, Bool.or_false]
  show (a == x || b == x) = _
  have e : ∀ y : Str, (y == x) = decide (x = y) := fun y => by
    rw [Bool.eq_iff_iff, beq_iff_eq, decide_eq_true_eq]
    exact ⟨Eq.symm, Eq.symm⟩
  rw [e, e]
abbrev nm_refusal_at : List Str := ["house", "path", "member", "target", "standing"]
theorem sc_refusal_at : FnScope nm_refusal_at ["house", "path", "member", "target"] (defScope s_refusal_at) := fnScope_by (by decide +kernel)
def HS.refuse2 (S : HS) (m : Mem) : Str :=
  match m with
  | .dir n _ _ => if S.kd n = "file" ∨ S.kd n = "symlink" then "occupied" else ""
  | .lnk n _ _ g => if S.kd n = "directory" then "directory" else if S.kd g = "file" then "" else "target"
  | m => if S.kd m.nm = "directory" then "directory" else ""
abbrev rRefAt (K : PySem.W.Frag) (a : Ad) : List V → Hp → V → Prop := fun vs H z => ∃ p dx st fi ro S q m, vs = [.ref p, vS m.nm, .ref q, tgV m] ∧ HAt K a H p dx st fi ro S ∧ MemAt a H q m ∧ z = .str (S.refuse2 m)
theorem ok_refusal_at (T : Txt K mg a) (M : Mcl K a) (F : DB K mg "refusal_at" s_refusal_at ["house", "path", "member", "target"]) (c_House_kind_at : Met P w K mg base 2 a.cHouse "kind_at" (spV 2 (spKind K a)) []) : Cal P w K mg base 3 "refusal_at" (spV 4 (rRefAt K a)) [] := by
  refine cal_of F sc_refusal_at (fun _ _ _ _ h => h.1) fun f cdv A outer s H vs Q E hr h => ⟨_, (pss_cons (ps_set (i := 4) sc_refusal_at.nd rfl (Or.inl rfl) (C8.pe_mt c_House_kind_at hr (by decide) (pv 0) (pa_cons (pv 1) pa_nil)))
    (pss_cons (ps_if (pt_cmpR op_eq (pe_con (pv 2) rfl) pe_str (nomark _)) (pss_one (ps_ret (pe_ifExp (pt_cmpR op_in_seq (pv 4) (pe_tup (pa_cons pe_str (pa_cons pe_str pa_nil))) (by rfl)) pe_str pe_str))) pss_nil)
    (pss_cons (ps_if (pt_cmpR op_eq (pv 4) pe_str (nomark _)) (pss_one (ps_ret pe_str)) pss_nil)
    (pss_cons (ps_if (PW.pt (pw_and (pt_cmpR op_eq (pe_con (pv 2) rfl) pe_str (nomark _)) (pw_and1 (pt_cmpR op_ne (C8.pe_mt c_House_kind_at hr (by decide) (pv 0) (pa_cons (pv 3) pa_nil)) pe_str (nomark _))))) (pss_one (ps_ret pe_str)) pss_nil)
    (pss_one (ps_ret pe_str)))))), ?_⟩
  obtain ⟨_, _, ⟨p, dx, st, fi, ro, S, q, m, rfl, hh, hm, rfl⟩, k⟩ := h
  refine q_asg (ev_kd hh (ev_var rfl) (ev_var rfl)) fun H1 e1 => ?_
  have A := M.ap
  have hm1 := hm.mono A (ExT.of e1)
  have hh1 := hh.mono e1
  refine q_when (et_eq (ev_kind M hm1 (ev_var rfl)) ev_c rfl) (fun hd H2 e2 => ?_) fun hd H2 e2 => ?_
  · cases m with
    | dir n mo ti =>
      refine s_ret (v := .str (S.refuse2 (.dir n mo ti))) (ev_if (et_test (ev_inU (ev_var rfl) (eu_tup (ea_cons ev_c (ea_cons ev_c ea_nil)) (by decide)) rfl rfl)) (fun h => ?_) fun h => ?_) fun H3 e3 => k H3 ((e1.trans e2).trans e3)
      · rw [inV2] at h
        have : S.kd n = "file" ∨ S.kd n = "symlink" := by
          have h2 : (decide (S.kd n = "file") || decide (S.kd n = "symlink")) = true := h
          simpa using h2
        rw [show S.refuse2 (.dir n mo ti) = "occupied" from if_pos this]
        exact ev_c
      · rw [inV2] at h
        have : ¬ (S.kd n = "file" ∨ S.kd n = "symlink") := by
          have h2 : (decide (S.kd n = "file") || decide (S.kd n = "symlink")) = false := h
          simpa using h2
        rw [show S.refuse2 (.dir n mo ti) = "" from if_neg this]
        exact ev_c
    | lnk n mo ti g => exact absurd (show decide (V.str "link" = V.str "directory") = true from hd) (by decide)
    | fil n mo ti d => exact absurd (show decide (V.str "file" = V.str "directory") = true from hd) (by decide)
    | spa n mo ti k x y => exact absurd (show decide (V.str "sparse" = V.str "directory") = true from hd) (by decide)
    | sym n mo ti g => exact absurd (show decide (V.str "symlink" = V.str "directory") = true from hd) (by decide)
  · have e12 := e1.trans e2
    have nd : ∀ n mo ti, m ≠ .dir n mo ti := fun n mo ti z => by
      subst z
      exact absurd (show decide (V.str "directory" = V.str "directory") = false from hd) (by decide)
    have sd : ∀ x : Str, decide (V.str x = V.str "directory") = true → x = "directory" := fun x h => by simpa using h
    have sn : ∀ x : Str, decide (V.str x = V.str "directory") = false → ¬ x = "directory" := fun x h => by simpa using h
    refine q_when (et_eq (ev_var (v := .str (S.kd m.nm)) rfl) ev_c rfl) (fun h H3 e3 => ?_) fun h H3 e3 => ?_
    · have z := sd _ h
      refine s_ret (v := .str (S.refuse2 m)) ?_ fun H4 e4 => k H4 ((e12.trans e3).trans e4)
      rw [show S.refuse2 m = "directory" from by
        cases m with
        | dir n mo ti => exact absurd rfl (nd n mo ti)
        | lnk n mo ti g => exact if_pos z
        | fil n mo ti d => exact if_pos z
        | spa n mo ti k x y => exact if_pos z
        | sym n mo ti g => exact if_pos z]
      exact ev_c
    · have z := sn _ h
      have e13 := e12.trans e3
      have hm3 := hm.mono A (ExT.of e13)
      have go : decide (V.str m.kd = V.str "link") = false → S.refuse2 m = "" → tSeq (tIfS (tAnd (tTest (tOp rEq (tCon K (tVar 2) "KIND") (tC (.str "link")))) (tTest (tOp rNe (tMeth a.cHouse "kind_at" (spV 2 (spKind K a)) [] C8.E0 (tVar 0) (tCons (tVar 3) tNil)) (tC (.str "file"))))) (tRet (tC (.str "target"))) tNext) (tRet (tC (.str ""))) { nx := fun _ H' => Q .non H', rt := Q } [some (.ref p), some (vS m.nm), some (.ref q), some (tgV m), some (.str (S.kd m.nm))] H3 := fun h1 h2 => by
        refine q_when (b := false) (et_and (a := false) (b := false) (et_is (et_eq (ev_kind M hm3 (ev_var rfl)) ev_c rfl) h1) fun h => by cases h) (fun h2 => absurd h2 (by decide)) fun _ H4 e4 => ?_
        refine s_ret (v := .str (S.refuse2 m)) ?_ fun H5 e5 => k H5 ((e13.trans e4).trans e5)
        rw [h2]
        exact ev_c
      cases m with
      | dir n mo ti => exact absurd rfl (nd n mo ti)
      | lnk n mo ti g =>
        refine q_when (b := !decide (S.kd g = "file")) (et_and (a := true) (b := !decide (S.kd g = "file")) (et_eq (ev_kind M (hm.mono A (ExT.of e13)) (ev_var rfl)) ev_c rfl) fun _ => et_is (et_ne (ev_kd (hh.mono e13) (ev_var rfl) (ev_var rfl)) ev_c rfl) (by simp)) (fun h2 H4 e4 => ?_) fun h2 H4 e4 => ?_
        · have ne : ¬ S.kd g = "file" := by simpa using h2
          refine s_ret (v := .str (S.refuse2 (.lnk n mo ti g))) ?_ fun H5 e5 => k H5 ((e13.trans e4).trans e5)
          rw [show S.refuse2 (.lnk n mo ti g) = "target" from (if_neg z).trans (if_neg ne)]
          exact ev_c
        · have eq : S.kd g = "file" := by simpa using h2
          refine s_ret (v := .str (S.refuse2 (.lnk n mo ti g))) ?_ fun H5 e5 => k H5 ((e13.trans e4).trans e5)
          rw [show S.refuse2 (.lnk n mo ti g) = "" from (if_neg z).trans (if_pos eq)]
          exact ev_c
      | fil n mo ti d => exact go (show decide (V.str "file" = V.str "link") = false by decide) (if_neg z)
      | spa n mo ti k x y => exact go (show decide (V.str "sparse" = V.str "link") = false by decide) (if_neg z)
      | sym n mo ti g => exact go (show decide (V.str "symlink" = V.str "link") = false by decide) (if_neg z)
abbrev nm_refusal : List Str := ["house", "member", "path"]
theorem sc_refusal : FnScope nm_refusal ["house", "member"] (defScope s_refusal) := fnScope_by (by decide +kernel)
abbrev rRef (K : PySem.W.Frag) (a : Ad) : List V → Hp → V → Prop := fun vs H z => ∃ p dx st fi ro S q m, vs = [.ref p, .ref q] ∧ HAt K a H p dx st fi ro S ∧ MemAt a H q m ∧ m.nm ∈ labels ∧ z = .str (S.refuse m)
theorem refuse_eq (S : HS) (m : Mem) : S.refuse m = if S.okAbove m.nm = false then ("parent" : Str) else S.refuse2 m := by cases m <;> rfl
theorem ok_refusal (T : Txt K mg a) (M : Mcl K a) (F : DB K mg "refusal" s_refusal ["house", "member"]) (c_is_path : Cal P w K mg base 2 "is_path" (spV 1 rPath) []) (c_House_kind_at : Met P w K mg base 2 a.cHouse "kind_at" (spV 2 (spKind K a)) [])
    (c_above : Cal P w K mg base 1 "above" (spL 1 rAbove) []) (c_refusal_at : Cal P w K mg base 3 "refusal_at" (spV 4 (rRefAt K a)) []) : Cal P w K mg base 4 "refusal" (spV 2 (rRef K a)) [] := by
  refine cal_of F sc_refusal (fun _ _ _ _ h => h.1) fun f cdv A outer s H vs Q E hr h => ⟨_, (pss_cons (ps_if (pt_not (pt_val (C8.pe_c c_is_path hr (by decide) rfl (pa_cons (pe_fld (pv 1) rfl) pa_nil)))) (pss_one (ps_ret pe_str)) pss_nil)
    (pss_cons (ps_if (pt_not (pt_val (pe_callB (cr_all rfl) (by rfl) T.b_all (by decide +kernel) (pa_cons (pe_lc (own := [("path", 2)]) (g := (gName 2)) (tt := tYes) rfl sc_refusal.nd (pi_list (C8.pe_c c_above hr (by decide) rfl (pa_cons (pe_fld (pv 1) rfl) pa_nil))) (blkOk_by (own := [("path", 2)]) (N := nm_refusal) (sc := defScope s_refusal) (by decide +kernel)) (fun _ _ _ _ _ => (pg_name (i := 2) sc_refusal.nd rfl (Or.inl rfl))) (fun _ _ _ _ _ => pts_nil) (fun _ _ _ _ _ => (pe_cmpR (in_seqK (K := K) rfl) (C8.pe_mt c_House_kind_at hr (by decide) (pv 0) (pa_cons (pv 2) pa_nil)) (pe_tup (pa_cons pe_str (pa_cons pe_str pa_nil))) (by rfl)))) pa_nil)))) (pss_one (ps_ret pe_str)) pss_nil)
    (pss_one (ps_ret (C8.pe_c c_refusal_at hr (by decide) rfl (pa_cons (pv 0) (pa_cons (pe_fld (pv 1) rfl) (pa_cons (pv 1) (pa_cons (pe_ifExp (pt_cmpR op_eq (pe_con (pv 1) rfl) pe_str (nomark _)) (pe_fld (pv 1) rfl) pe_str) pa_nil))))))))), ?_⟩
  obtain ⟨_, _, ⟨p, dx, st, fi, ro, S, q, m, rfl, hh, hm, hl, rfl⟩, k⟩ := h
  have A := M.ap
  refine q_when (et_nT (et_B (ev_callV (z := .bl true) (ea_cons (ev_name M hm (ev_var rfl)) ea_nil) rfl fun _ _ => ⟨m.nm, rfl, hl, rfl⟩))) (fun h => absurd h (by decide)) fun _ H1 e1 => ?_
  have hm1 := hm.mono A (ExT.of e1)
  have al : ((abv m.nm).map vS).all (fun v => match v with | .str x => decide (S.kd x.cps.toList = "absent") || decide (S.kd x.cps.toList = "directory") | _ => false) = S.okAbove m.nm := by
    rw [List.all_map]
    rfl
  refine q_when (et_not (et_B (ev_allG (fun v => match v with | .str x => decide (S.kd x.cps.toList = "absent") || decide (S.kd x.cps.toList = "directory") | _ => false) (ei_listN (el_callL (ea_cons (ev_name M hm1 (ev_var rfl)) ea_nil) rfl fun _ _ => ⟨m.nm, rfl, hl, rfl⟩)) (by rw [List.length_map]; exact Nat.le_trans (abv_len m.nm) (by decide)) (fun x => rfl) fun x H2 hx e2 => ?_))) (fun h H2 e2 => ?_) fun h H2 e2 => ?_
  · obtain ⟨path, hp, rfl⟩ := List.mem_map.1 hx
    refine ev_is (ev_inU (ev_kd (hh.mono (e1.trans e2)) (ev_var rfl) (ev_var rfl)) (eu_tup (ea_cons ev_c (ea_cons ev_c ea_nil)) (by decide)) rfl rfl) ?_
    rw [inV2]
  · rw [al] at h
    have z : S.okAbove m.nm = false := by simpa using h
    refine s_ret (v := .str (S.refuse m)) ?_ fun H3 e3 => k H3 ((e1.trans e2).trans e3)
    rw [refuse_eq, if_pos z]
    exact ev_c
  · rw [al] at h
    have z : ¬ S.okAbove m.nm = false := by simpa using h
    have e12 := e1.trans e2
    have hm2 := hm.mono A (ExT.of e12)
    refine s_ret (v := .str (S.refuse m)) ?_ fun H3 e3 => k H3 (e12.trans e3)
    rw [refuse_eq, if_neg z]
    exact ev_callV (ea_cons (ev_var rfl) (ea_cons (ev_name M hm2 (ev_var rfl)) (ea_cons (ev_var rfl) (ea_cons (ev_tg M hm2 (ev_var rfl)) ea_nil)))) rfl fun H3 e3 => ⟨p, dx, st, fi, ro, S, q, m, rfl, hh.mono (e12.trans e3), hm2.mono A (ExT.of e3), rfl⟩
abbrev nm_put_at : List Str := ["house", "path", "member", "target", "other"]
theorem sc_put_at : FnScope nm_put_at ["house", "path", "member", "target"] (defScope s_put_at) := fnScope_by (by decide +kernel)
theorem ev_left {σ : L2.St} {H : Hp} {t1 t2 : TE} {v : V} (h : Ev t1 σ H v) : Ev (fun σ H Q => t1 σ H Q ∨ t2 σ H Q) σ H v := fun H1 e Q q => Or.inl (h H1 e Q q)
theorem ev_right {σ : L2.St} {H : Hp} {t1 t2 : TE} {v : V} (h : Ev t2 σ H v) : Ev (fun σ H Q => t1 σ H Q ∨ t2 σ H Q) σ H v := fun H1 e Q q => Or.inr (h H1 e Q q)
theorem ev_mt0 {σ : L2.St} {H : Hp} {ta : TE} {C : Addr} {m : Str} {n : Nat} {R : List V → Hp → V → Prop} {E : XK} {p dx : Addr} {fs : List (Str × V)} {z : V} (ha : Ev ta σ H (.ref p)) (ho : H p = some (.ins C dx fs)) (hl : fs.lookup m = none) (l : [V.ref p].length = n) (hr : ∀ H1, Ex H H1 → R [.ref p] H1 z) : Ev (tMeth C m (spV n R) [] E ta tNil) σ H z := ev_mt ha ho hl ea_nil l hr
theorem HS.Wf.mono {S : HS} {n k : Nat} (W : S.Wf n) (h : n ≤ k) : S.Wf k := ⟨W.sub, W.nd, W.idx, Nat.le_trans W.len h⟩
abbrev rFC (a : Ad) : List V → Hp → V → Prop := fun vs H z => ∃ p nm mo ti d, vs = [.ref p] ∧ MemAt a H p (.fil nm mo ti d) ∧ z = vB d
abbrev rSC (a : Ad) : List V → Hp → V → Prop := fun vs H z => ∃ p nm mo ti k x y, vs = [.ref p] ∧ MemAt a H p (.spa nm mo ti k x y) ∧ k ≤ 2 ∧ z = vB (spC k x y)
abbrev spShare (K : PySem.W.Frag) (a : Ad) : Sp := fun vs H Q _ => ∃ p dx st fi ro S path g t, vs = [.ref p, vS path, vS g] ∧ HAt K a H p dx st fi ro S ∧ S.Wf 50 ∧ S.get g = some t ∧ ∀ H', ExO [st, fi] H H' → HAt K a H' p dx st fi ro (S.setT path t) → Q .non H'
abbrev spPut (K : PySem.W.Frag) (a : Ad) : Sp := fun vs H Q _ => ∃ p dx st fi ro S q m, vs = [.ref p, vS m.nm, .ref q, tgV m] ∧ HAt K a H p dx st fi ro S ∧ S.Wf 40 ∧ MemAt a H q m ∧ m.Ok ∧ S.refuse m = "" ∧ ∀ H', ExO [st, fi] H H' → HAt K a H' p dx st fi ro (S.put m) → Q .non H'
theorem exT_of {H H' : Hp} {p dx st fi ro : Addr} {S : HS} (hh : HAt K a H p dx st fi ro S) (e : ExO [st, fi] H H') : ExT a H H' := fun b o hb hs => e b o hb fun z => by
  rcases List.mem_cons.mp z with q | z
  · obtain ⟨_, h1, _⟩ := hh.std
    rw [q, h1] at hb
    cases hb
    exact stay_dK hs
  · obtain ⟨_, h1, _⟩ := hh.fls
    rw [List.mem_singleton.mp z, h1] at hb
    cases hb
    exact stay_dK hs
theorem case_hit {c x : Str} {t : TS} {tr : V → TS} {D : Ends} {σ : L2.St} {H : Hp} (h : x = c) (k : t D σ H) : tCase c t tr (.str x) D σ H := ⟨x, rfl, by rw [if_pos h]; exact k⟩
theorem case_miss {c x : Str} {t : TS} {tr : V → TS} {D : Ends} {σ : L2.St} {H : Hp} (h : ¬ x = c) (k : tr (.str x) D σ H) : tCase c t tr (.str x) D σ H := ⟨x, rfl, by rw [if_neg h]; exact k⟩
theorem s_match {D : Ends} {σ : L2.St} {H : Hp} {te : TE} {t : V → TS} {v : V} (h : Ev te σ H v) (k : ∀ H1, Ex H H1 → t v D σ H1) : tMatch te t D σ H := h H (Ex.refl H) _ k
theorem q_match {D : Ends} {tz : TS} {σ : L2.St} {H : Hp} {te : TE} {t : V → TS} {v : V} (h : Ev te σ H v) (k : ∀ H1, Ex H H1 → t v { D with nx := tz D } σ H1) : tSeq (tMatch te t) tz D σ H := h H (Ex.refl H) _ k
theorem kd_some {S : HS} {g : Path} (h : S.kd g = "file") : ∃ i, S.get g = some (.fil i) := by
  unfold HS.kd at h
  cases e : S.get g with
  | none => rw [e] at h; exact absurd (show ("absent" : Str) = "file" from h) (by decide)
  | some t =>
    rw [e] at h
    cases t with
    | fil i => exact ⟨i, rfl⟩
    | dir mo ti => exact absurd (show ("directory" : Str) = "file" from h) (by decide)
    | sym g mo ti => exact absurd (show ("symlink" : Str) = "file" from h) (by decide)
theorem kd_absent {S : HS} {g : Path} : decide (V.str (S.kd g) = V.str "absent") = decide (S.get g = none) := by
  unfold HS.kd
  cases e : S.get g with
  | none => rfl
  | some t => cases t <;> rfl
theorem ok_put_at (T : Txt K mg a) (M : Mcl K a) (HF : HouF K a) (F : DB K mg "put_at" s_put_at ["house", "path", "member", "target"]) (c_House_kind_at : Met P w K mg base 2 a.cHouse "kind_at" (spV 2 (spKind K a)) [])
    (c_above : Cal P w K mg base 1 "above" (spL 1 rAbove) []) (c_House_set_thing : Met P w K mg base 1 a.cHouse "set_thing" (spSet K a) []) (c_House_share : Met P w K mg base 1 a.cHouse "share" (spShare K a) [])
    (c_File_content : Met P w K mg base 1 a.cFile "content" (spV 1 (rFC a)) []) (c_Sparse_content : Met P w K mg base 1 a.cSparse "content" (spV 1 (rSC a)) []) : Cal P w K mg base 3 "put_at" (spPut K a) [] := by
  refine cal_of F sc_put_at (fun vs H Q E h => by obtain ⟨p, dx, st, fi, ro, S, q, m, rfl, _⟩ := h; rfl) fun f cdv A outer s H vs Q E hr h => ⟨_, (pss_cons (ps_for PassesOwn.never rfl (pi_list (C8.pe_c c_above hr (by decide) rfl (pa_cons (pv 1) pa_nil))) (pg_name (i := 4) sc_put_at.nd rfl (Or.inl rfl)) (pss_one (ps_if (pt_cmpR op_eq (C8.pe_mt c_House_kind_at hr (by decide) (pv 0) (pa_cons (pv 4) pa_nil)) pe_str (nomark _)) (pss_one (ps_expr (C8.pe_mt c_House_set_thing hr (by decide) (pv 0) (pa_cons (pv 4) (pa_cons (pe_gc rfl T.g_MADE) pa_nil))))) pss_nil)))
    (pss_one (ps_match (pe_con (pv 2) rfl) (pm_val (pss_one (ps_expr (C8.pe_mt c_House_set_thing hr (by decide) (pv 0) (pa_cons (pv 1) (pa_cons (pe_tup (pa_cons pe_str (pa_cons (pe_fld (pv 2) rfl) (pa_cons (pe_fld (pv 2) rfl) pa_nil)))) pa_nil)))))
    (pm_val (pss_one (ps_expr (C8.pe_mt c_House_set_thing hr (by decide) (pv 0) (pa_cons (pv 1) (pa_cons (pe_tup (pa_cons pe_str (pa_cons (pe_fld (pv 2) rfl) (pa_cons (pe_fld (pv 2) rfl) (pa_cons (pe_fld (pv 2) rfl) pa_nil))))) pa_nil)))))
    (pm_val (pss_one (ps_expr (C8.pe_mt c_House_share hr (by decide) (pv 0) (pa_cons (pv 1) (pa_cons (pv 3) pa_nil)))))
    (pm_any (pss_one (ps_expr (C8.pe_mt c_House_set_thing hr (by decide) (pv 0) (pa_cons (pv 1) (pa_cons (pe_tup (pa_cons pe_str (pa_cons (pe_either (C8.pe_mt0 c_File_content hr (by decide) (pv 2)) (C8.pe_mt0 c_Sparse_content hr (by decide) (pv 2))) (pa_cons (pe_fld (pv 2) rfl) (pa_cons (pe_fld (pv 2) rfl) pa_nil))))) pa_nil)))))))))))), ?_⟩
  obtain ⟨p, dx, st, fi, ro, S, q, m, rfl, hh, W, hm, hok, href, k⟩ := h
  have A := M.ap
  have hnm := hok.base.nm
  refine q_forNL (xs := (abv m.nm).map vS) (el_callL (ea_cons (ev_var rfl) ea_nil) rfl fun _ _ => ⟨m.nm, rfl, hnm, rfl⟩)
    (fun lp i σ' H' => H' lp = some (.lst ((abv m.nm).map vS)) ∧ lp ≠ st ∧ lp ≠ fi ∧ ExO [st, fi] H H' ∧ ExT a H H' ∧ HAt K a H' p dx st fi ro (((abv m.nm).take i).foldl HS.mk1 S) ∧ ∃ u, σ' = [some (.ref p), some (vS m.nm), some (.ref q), some (tgV m), u])
    (fun lp H1 hlp e1 g1 => ⟨g1, (fun z => by obtain ⟨_, h1, _⟩ := hh.std; rw [z, h1] at hlp; cases hlp), (fun z => by obtain ⟨_, h1, _⟩ := hh.fls; rw [z, h1] at hlp; cases hlp), ExO.of e1, ExT.of e1, hh.mono e1, none, rfl⟩)
    (fun lp i σ' H' _ h => sq_of h.1) ?_ ?_
  · rintro lp i x σ' H' hx ⟨g1, n1, n2, eO, eT, hh2, u, rfl⟩
    have hi : i < (abv m.nm).length := by
      have := (List.getElem?_eq_some_iff.1 hx).1
      rwa [List.length_map] at this
    rw [List.getElem?_map, List.getElem?_eq_getElem hi] at hx
    cases Option.some.inj hx
    have hpl := abv_labels m.nm hnm _ (List.getElem_mem hi)
    have tk : (abv m.nm).take (i + 1) = (abv m.nm).take i ++ [(abv m.nm)[i]] := (List.take_append_getElem hi).symm
    have W2 : (((abv m.nm).take i).foldl HS.mk1 S).Wf 40 := wf_mks W fun q hq => abv_labels m.nm hnm q (List.mem_of_mem_take hq)
    have fold : ((abv m.nm).take (i + 1)).foldl HS.mk1 S = (((abv m.nm).take i).foldl HS.mk1 S).mk1 (abv m.nm)[i] := by rw [tk, List.foldl_append]; rfl
    rw [fold]
    generalize ((abv m.nm).take i).foldl HS.mk1 S = S2 at hh2 W2
    generalize (abv m.nm)[i] = path at hpl
    refine s_when (et_is (et_eq (ev_kd hh2 (ev_var rfl) (ev_var (v := vS path) rfl)) ev_c rfl) kd_absent) (fun h H3 e3 => ?_) (fun h H3 e3 => ?_)
    · have z : S2.get path = none := by simpa using h
      have hh3 := hh2.mono e3
      refine s_dropMt (vs := [vS path, .ref a.aMADE]) (ev_var rfl) hh3.obj rfl (ea_cons (ev_var rfl) (ea_cons ev_c ea_nil)) fun H4 e4 => ?_
      have hh4 := hh3.mono e4
      refine ⟨p, dx, st, fi, ro, S2, path, a.aMADE, .dir 493 0, rfl, hh4, W2.mono (by decide), hpl, Or.inr HF.made, (fun q z => by cases z), fun H5 e5 hh5 => ?_⟩
      have eO4 : ExO [st, fi] H H4 := (eO.trans (ExO.of e3)).trans (ExO.of e4)
      refine ⟨e5 _ _ (e4 _ _ (e3 _ _ g1)) (by simp [n1, n2]), n1, n2, eO4.trans e5, (eT.trans (ExT.of (e3.trans e4))).trans (exT_of hh4 e5), ?_, some (vS path), rfl⟩
      rw [show S2.mk1 path = S2.setT path (.dir 493 0) from if_pos z]
      exact hh5
    · have z : ¬ S2.get path = none := by simpa using h
      refine ⟨e3 _ _ g1, n1, n2, eO.trans (ExO.of e3), eT.trans (ExT.of e3), ?_, some (vS path), rfl⟩
      rw [show S2.mk1 path = S2 from if_neg z]
      exact hh2.mono e3
  · rintro lp σ' H' ⟨g1, n1, n2, eO, eT, hh2, u, rfl⟩
    rw [List.length_map, List.take_length] at hh2
    have W2 : ((abv m.nm).foldl HS.mk1 S).Wf 40 := wf_mks W fun q hq => abv_labels m.nm hnm q hq
    have hm2 := hm.mono A eT
    refine s_match (ev_kind M hm2 (ev_var rfl)) fun H2 e2 => ?_
    have eO2 := eO.trans (ExO.of e2)
    have hm3 := hm2.mono A (ExT.of e2)
    have hh3 := hh2.mono e2
    have setp : ∀ {e : En} {xs : List V} {tl : TA}, EvU (tTup tl) [some (.ref p), some (vS m.nm), some (.ref q), some (tgV m), u] H2 xs → xs = enV e → (∀ q, e ≠ .lnk q) → setE ((abv m.nm).foldl HS.mk1 S) m.nm e = S.put m →
        tDrop (tMeth a.cHouse "set_thing" (spSet K a) [] C8.E0 (tVar 0) (tCons (tVar 1) (tCons (tTup tl) tNil))) { nx := fun _ H' => Q .non H', rt := Q } [some (.ref p), some (vS m.nm), some (.ref q), some (tgV m), u] H2 := by
      intro e xs tl hu ee hne hput
      refine s_dropMtP (Pa := fun vs H2 => ∃ b, vs = [vS m.nm, .ref b] ∧ H2 b = some (.tup xs)) (ev_var rfl) hh3.obj rfl (eap_cons (ev_p (ev_var rfl)) fun x H3 e3 hx => ?_) fun vs H3 e3 hv => ?_
      · subst hx
        refine eap_cons (EvU.p (fun H4 e4 => hu H4 (e3.trans e4))) fun y H4 e4 hy => ?_
        obtain ⟨b, rfl, hb⟩ := hy
        exact eap_nil fun H5 e5 => ⟨b, rfl, e5 _ _ hb⟩
      · obtain ⟨b, rfl, hb⟩ := hv
        refine ⟨p, dx, st, fi, ro, _, m.nm, b, e, rfl, hh3.mono e3, W2.mono (by decide), hnm, Or.inl (ee ▸ hb), hne, fun H5 e5 hh5 => ?_⟩
        rw [hput] at hh5
        exact k H5 ((eO2.trans (ExO.of e3)).trans e5) hh5
    have V0 : ∀ {i : Nat} {v : V}, [some (V.ref p), some (vS m.nm), some (.ref q), some (tgV m), u][i]? = some (some v) → Ev (tVar i) [some (.ref p), some (vS m.nm), some (.ref q), some (tgV m), u] H2 v := fun h => ev_var h
    have mode := ev_mode M hm3 (V0 (i := 2) rfl)
    have time := ev_time M hm3 (V0 (i := 2) rfl)
    cases m with
    | dir n mo ti =>
      refine case_hit rfl ?_
      exact setp (e := .dir mo ti) (eu_tup (ea_cons ev_c (ea_cons mode (ea_cons time ea_nil))) (by simp)) rfl (fun _ z => by cases z) rfl
    | sym n mo ti g =>
      refine case_miss (show ¬ ("symlink" : Str) = "directory" by decide) ?_
      refine case_hit rfl ?_
      exact setp (e := .sym g mo ti) (eu_tup (ea_cons ev_c (ea_cons (ev_mem M hm3 (V0 (i := 2) rfl) (.tail _ (.tail _ (.tail _ (.tail _ (.head _))))) fun _ _ _ _ => rfl) (ea_cons mode (ea_cons time ea_nil)))) (by simp)) rfl (fun _ z => by cases z) rfl
    | lnk n mo ti g =>
      refine case_miss (show ¬ ("link" : Str) = "directory" by decide) ?_
      refine case_miss (show ¬ ("link" : Str) = "symlink" by decide) ?_
      refine case_hit rfl ?_
      obtain ⟨i, hg⟩ : ∃ i, S.get g = some (.fil i) := by
        rw [refuse_eq] at href
        split at href
        · exact absurd href (by decide)
        · simp only [HS.refuse2] at href
          split at href
          · exact absurd href (by decide)
          · split at href
            · rename_i h; exact kd_some h
            · exact absurd href (by decide)
      have hg2 := mks_keep (l := abv n) hg
      refine s_dropMt (vs := [vS n, vS g]) (V0 (i := 0) rfl) hh3.obj rfl (ea_cons (V0 (i := 1) rfl) (ea_cons (V0 (i := 3) rfl) ea_nil)) fun H3 e3 => ?_
      refine ⟨p, dx, st, fi, ro, _, n, g, _, rfl, hh3.mono e3, W2.mono (by decide), hg2, fun H5 e5 hh5 => k H5 ((eO2.trans (ExO.of e3)).trans e5) ?_⟩
      have ep : S.put (.lnk n mo ti g) = ((abv n).foldl HS.mk1 S).setT n (.fil i) := by
        show ((abv n).foldl HS.mk1 S).setT n ((((abv n).foldl HS.mk1 S).get g).getD (.dir 0 0)) = _
        rw [hg2]; rfl
      rw [ep]
      exact hh5
    | fil n mo ti d =>
      refine case_miss (show ¬ ("file" : Str) = "directory" by decide) ?_
      refine case_miss (show ¬ ("file" : Str) = "symlink" by decide) ?_
      refine case_miss (show ¬ ("file" : Str) = "link" by decide) ?_
      obtain ⟨dx2, ky, pt, g2, _, _⟩ := id hm3
      exact setp (e := .fil d mo ti) (eu_tup (ea_cons ev_c (ea_cons (ev_left (ev_mt0 (V0 (i := 2) rfl) g2 rfl rfl fun H3 e3 => ⟨q, n, mo, ti, d, rfl, hm3.mono A (ExT.of e3), rfl⟩)) (ea_cons mode (ea_cons time ea_nil)))) (by simp)) rfl (fun _ z => by cases z) rfl
    | spa n mo ti kk x y =>
      refine case_miss (show ¬ ("sparse" : Str) = "directory" by decide) ?_
      refine case_miss (show ¬ ("sparse" : Str) = "symlink" by decide) ?_
      refine case_miss (show ¬ ("sparse" : Str) = "link" by decide) ?_
      obtain ⟨dx2, ky, pt, g2, _, _⟩ := id hm3
      exact setp (e := .fil (spC kk x y) mo ti) (eu_tup (ea_cons ev_c (ea_cons (ev_right (ev_mt0 (V0 (i := 2) rfl) g2 rfl rfl fun H3 e3 => ⟨q, n, mo, ti, kk, x, y, rfl, hm3.mono A (ExT.of e3), hok.2, rfl⟩)) (ea_cons mode (ea_cons time ea_nil)))) (by simp)) rfl (fun _ z => by cases z) rfl
end
end Tl
end

section
set_option Elab.async false
set_option linter.all false
set_option maxRecDepth 100000
set_option maxHeartbeats 4000000
/-! The exception Refused: made, raised. -/
namespace Tl
open PySem PySem.Spec PyProof.Rows L2 Evl PySem.Builtin PySem.Builtin.ObjectAttr
structure RfC (K : PySem.W.Frag) (C : Addr) : Prop where
  init : PySem.W.excInitIn K C bmRT "RuntimeError.__new__" = true
  over : PySem.W.excOver K C bmRT = true
  hd : PySem.W.hasDictIn K C = true
  sa : PySem.W.findIn K (.ref C) "__setattr__" = some (some (.builtin "object.__setattr__"))
  exC : PySem.W.subIn K (.ref C) (.type "BaseException") = some true
  isB : PySem.W.subIn K (.ref C) (.type "RuntimeError") = some true
  tyC : PySem.W.typeIn K (.ref C) = some (.type "type")
  kC : PySem.W.keepIn K (.ref C) = true
  tI : PySem.W.takerIn K C "index" = some none
  tW : PySem.W.takerIn K C "word" = some none
section
variable {X : Cx} {pins : List (Addr × Obj)} {σ : L2.St} {H : Hp} {s : Shared} {a C dx : Addr} {f : Str} {y : V} {u : Value} {fs : List (Str × V)} {Q : Unit → Shared → Prop} {E : Value → Shared → Prop} {A : Around}
theorem RfC.cd {K : PySem.W.Frag} {C : Addr} (T : RfC K C) : ∃ cd, PySem.W.clsIn K C = some cd ∧ cd.hasDict = true := by
  have h := T.hd
  unfold PySem.W.hasDictIn at h
  cases e : PySem.W.clsIn K C with
  | none => rw [e] at h; cases h
  | some cd => rw [e] at h; exact ⟨cd, rfl, h⟩
theorem rf_new (T : RfC X.K C) (I : Inv X pins σ H s) (e : H a = some (exo a C none)) (ht : PySem.W.takerIn X.K C f = some none) (ry : RelV y u)
    (h : ∀ dx s', H dx = none → dx ≠ a → Inv X pins σ (upd (upd H dx (exd dx [(f, y)])) a (exo a C (some dx))) s' → Q () s') : wpAny (model X.prog X.w) A (setAttr (.ref a) f u) Q E s := by
  obtain ⟨cd, hcl, hh⟩ := T.cd
  obtain ⟨t1, ho⟩ := exo_at I.hok e
  have hcls : PySem.W.Looks (model X.prog X.w) s.heap (classData C) cd := PySem.W.looks_clsIn I.kIn hcl
  obtain ⟨hp, g, d, t, os⟩ := s
  have KI := I.kIn
  refine PySem.W.set_plain KI (ox := { cls := .ref C, dict := none, data := .fields #[.ref t1, .none, .none, .none, .bool false, .none] }) (od := none) ⟨ho, rfl, rfl, trivial⟩ T.sa ?_
  refine PySem.W.osa_openX F.store_RuntimeError (s := ⟨hp, g, d, t + 1, os⟩) KI (ox := { cls := .ref C, dict := none, data := .fields #[.ref t1, .none, .none, .none, .bool false, .none] }) (od := none) ⟨ho, rfl, rfl, trivial⟩ T.over ht fun b => ?_
  have fin : ∀ h' tk' dx, (∀ b o, b ≠ a → hp.get? b = some o → h'.get? b = some o) → hp.objs.size ≤ dx → dx ≠ a → h'.get? a = some { cls := .ref C, dict := some dx, data := .fields #[.ref t1, .none, .none, .none, .bool false, .none] } → h'.Ns1 dx (fun y => if y = f then some u else none) → Q () ⟨h', g, d, tk', os⟩ := fun h' tk' dx k dn dne hx hn => by
    have hnd : H dx = none := I.hok.fresh dn
    have nd : ∀ {b : Addr} {o : Obj}, hp.get? b = some o → b ≠ dx := fun {b o} q => Nat.ne_of_lt (Nat.lt_of_lt_of_le (Heap.lt_size q) dn)
    have na : ∀ {b : Addr}, H b = none → b ≠ a := fun {b} n z => by rw [z, e] at n; cases n
    have U : Un X.fs [] H (upd (upd H dx (exd dx [(f, y)])) a (exo a C (some dx))) hp h' := {
      keep := fun b o q n _ _ => k b o (na n) q
      slot := fun b o q n _ _ => ⟨o.slots, k b o (na n) q⟩
      free := fun b o q n _ => by rw [upd_ne (na n), upd_ne (nd q)]; exact n
      there := fun b o q _ => by
        by_cases hb : b = a
        · exact ⟨_, hb ▸ hx⟩
        · exact ⟨o, k b o hb q⟩
      tups := fun b xs q => by rw [upd_ne (at_ne e q exo_tup), upd_ne (ne_of_none q hnd)]; exact q
      frzs := fun b o v q => by rw [upd_ne (at_ne e q exo_frz), upd_ne (ne_of_none q hnd)]; exact q
      tbls := fun b ps q => ⟨#[], by rw [upd_ne (at_ne e q exo_tbl), upd_ne (ne_of_none q hnd), q]; simp⟩ }
    refine h dx _ hnd dne (I.un (t' := tk') U fun b o q => ?_)
    by_cases hb : b = a
    · subst hb
      rw [upd_same] at q
      cases q
      exact exo_ok hx
    rw [upd_ne hb] at q
    by_cases hd : b = dx
    · subst hd
      rw [upd_same] at q
      cases q
      exact exd_ok hn (relO_put (fs := []) ry fun g => True.intro)
    rw [upd_ne hd] at q
    exact (I.hok b o q).stay (fun c v hc z => k c v (hc.elim (fun z => z ▸ hb) fun hc => at_ne e hc exo_own) z) (fun c hc => by rw [upd_ne (at_ne e hc exo_own), upd_ne (ne_of_none hc hnd)]; exact hc) (fun c xs hc => by rw [upd_ne (at_ne e hc exo_tup), upd_ne (ne_of_none hc hnd)]; exact hc)
  have hxs : a ≠ hp.objs.size := Nat.ne_of_lt (Heap.lt_size ho)
  show wpAny _ _ (storeInOwnDict (.ref a) (.ref C) (.str f t) f u b) _ _ _
  obtain ⟨nm, bs, mro, ns, qn, hd, sn, sb, ab, col, del⟩ := cd
  dsimp only at hh
  subst hh
  unfold storeInOwnDict ownDictForStores
  repeat (first | with_reducible refine PySem.HandSPX.store_in_new ?_ ?_ | with_reducible refine wpAny_loadPart_at ho ?_ | with_reducible refine hcls.at ?_ | wp_step)
  · exact ⟨_, #[], _, (Heap.get?_update_ne _ _ _ _ hxs.symm).trans (Heap.get?_push_at rfl rfl), rfl, fun e he => absurd he (by simp), fun _ => rfl⟩
  · intro h' tk' hn' hs
    have hx1 : (hp.push { cls := .type "dict", data := .dict #[] }).get? a = some { cls := .ref C, dict := none, data := .fields #[.ref t1, .none, .none, .none, .bool false, .none] } := Heap.get?_push_of_some _ ho
    exact fin h' tk' hp.objs.size (fun b o hb ho => (hs.2 b (Nat.ne_of_lt (Heap.lt_size ho))).trans ((Heap.get?_update_ne _ _ _ _ hb).trans (Heap.get?_push_of_some _ ho))) (Nat.le_refl _) hxs.symm ((hs.2 a hxs).trans (Heap.get?_update_self _ hx1 rfl)) hn'
theorem rf_old (T : RfC X.K C) (I : Inv X pins σ H s) (e : H a = some (exo a C (some dx))) (ed : H dx = some (exd dx fs)) (hl : fs.length ≤ 900) (ht : PySem.W.takerIn X.K C f = some none) (ry : RelV y u)
    (h : ∀ s', Inv X pins σ (upd H dx (exd dx ((f, y) :: fs))) s' → Q () s') : wpAny (model X.prog X.w) A (setAttr (.ref a) f u) Q E s := by
  obtain ⟨cd, hcl, hh⟩ := T.cd
  obtain ⟨t1, ho⟩ := exo_at I.hok e
  obtain ⟨mA, hns, rel⟩ := exd_at I.hok ed
  have hw := within_of rel
  have hcls : PySem.W.Looks (model X.prog X.w) s.heap (classData C) cd := PySem.W.looks_clsIn I.kIn hcl
  obtain ⟨hp, g, d, t, os⟩ := s
  have KI := I.kIn
  obtain ⟨oD, _, _, hoD, _, _⟩ := hns.count hw
  refine PySem.W.set_plain KI (ox := { cls := .ref C, dict := some dx, data := .fields #[.ref t1, .none, .none, .none, .bool false, .none] }) (od := some oD) ⟨ho, rfl, rfl, hoD⟩ T.sa ?_
  refine PySem.W.osa_openX F.store_RuntimeError (s := ⟨hp, g, d, t + 1, os⟩) KI (ox := { cls := .ref C, dict := some dx, data := .fields #[.ref t1, .none, .none, .none, .bool false, .none] }) (od := some oD) ⟨ho, rfl, rfl, hoD⟩ T.over ht fun b => ?_
  show wpAny _ _ (storeInOwnDict (.ref a) (.ref C) (.str f t) f u b) _ _ _
  obtain ⟨nm, bs, mro, ns, qn, hd, sn, sb, ab, col, del⟩ := cd
  dsimp only at hh
  subst hh
  unfold storeInOwnDict ownDictForStores
  repeat (first | with_reducible refine PySem.OEX.store_in_old hns hw (by rw [List.length_map]; omega) ?_ | with_reducible refine wpAny_loadPart_at ho ?_ | with_reducible refine hcls.at ?_ | wp_step)
  intro h' tk' hn' hs
  have k : ∀ b o, b ≠ dx → hp.get? b = some o → h'.get? b = some o := fun b o hb ho => (hs.2 b hb).trans ho
  have hd2 : ∃ o, h'.get? dx = some o := by
    obtain ⟨o, _, _, e', _⟩ := hn'
    exact ⟨o, e'⟩
  exact h _ (I.write (t' := tk') (x := dx) (e := dx) (o := exd dx ((f, y) :: fs)) (by rw [ed]; exact True.intro) (.inl rfl) k hd2 (exd_ok hn' (relO_put ry rel)))
/-- the wrapper of RuntimeError.__init__ called -/
theorem rf_call {q : Addr} {us : List Value} {Q : Value → Shared → Prop} (T : RfC X.K C) (I : Inv X pins σ H s) (e : H a = some (exo a C none)) (hu : s.heap.get? q = some (PySem.W.kxs_mw "RuntimeError.__init__" a)) (hl : us.length ≤ 1000) (h : ∀ s', Inv X pins σ H s' → Q .none s') :
    wpAny (model X.prog X.w) A (call (.ref q) us) Q E s := by
  obtain ⟨t1, ho⟩ := exo_at I.hok e
  obtain ⟨nm, N', qn, bs, bm, hdct, sn, sub, ab, col, dd, k0, k1, k2, k3, k5, hC, hT⟩ := PySem.W.excInit_of I.kIn T.init
  have hz : us.length ≤ sizeLine := by rw [sizeLine_eq]; omega
  have fin : ∀ h', (∀ b o, b ≠ a → s.heap.get? b = some o → h'.get? b = some o) → h'.get? a = some (PySem.W.excObj C s.heap.objs.size none .none) → h'.get? s.heap.objs.size = some (PySem.W.excTup us) → Q .none { s with heap := h' } := fun h' k hx _ => by
    have J := I.write (t' := s.toks) (x := a) (e := a) (o := exo a C none) (by rw [e]; exact True.intro) (.inl rfl) k ⟨_, hx⟩ (exo_ok hx)
    have eu : upd H a (exo a C none) = H := by
      funext b
      by_cases hb : b = a
      · rw [hb, upd_same, e]
      · rw [upd_ne hb]
    rw [eu] at J
    exact h _ J
  obtain ⟨hp, g, d, tk, os⟩ := s
  refine wpAny_call (codeAny_of_tree ?_)
  show wpAny _ A.in1 (callAny (.ref q) ⟨us, []⟩) _ _ _
  simp only [callAny]
  refine wpAny_bind (wpAny_load hu ?_)
  simp only [PySem.W.kxs_mw, show (Value.type "method-wrapper" == Value.type "method" || Value.type "method-wrapper" == Value.type "builtin_function_or_method" || Value.type "method-wrapper" == Value.type "method-wrapper") = true by decide, if_true]
  refine PySem.W.KFB.if_so (by decide) ?_
  refine wpAny_bind (PySem.W.check_bound_init F.excBase_RuntimeError.toExcCallFacts hC ho rfl ?_)
  refine wpAny_bind (wpAny_pure (wpAny_pure ?_))
  exact ⟨plainId_quiet F.excBase_RuntimeError.init.plain _, codeAny_builtin F.excBase_RuntimeError.initEntry (PySem.W.exc_init_tree (cls := .ref C) (t0 := t1) (dv := none) (c2 := .none) (c3 := .none) (b4 := .bool false) ho hz fin)⟩
end
/-- what the text has of the exception's __init__ -/
structure SupE (P : Program) (K : PySem.W.Frag) (mg : Str → Option Value) (scope : Scope) (params : Arguments) (D cc : Addr) (cdv : Value) (sf : Str) : Prop where
  cell : ∃ cl cld csl, K.lookup cc = some ⟨cl, cld, .cell (some (.ref D)), csl⟩
  cls : ∃ cd, PySem.W.clsIn K D = some cd
  code : ∃ (cda : Addr) (ccl : Value) (cdd : Option Addr) (vs : Array Value) (ccs : Array (Option Value)) (file : Str) (tf : Tok), cdv = .ref cda ∧ K.lookup cda = some ⟨ccl, cdd, .fields vs, ccs⟩ ∧ vs[2]? = some (.str file tf) ∧ ((P.main.file : Str) == file) = true
  par : ∃ ar, (params.posonlyargs ++ params.args).head? = some ar ∧ ar.arg = sf
  sub : PySem.W.mroIn K D (.ref D) = some true
  nosup : mg "super" = none
  ks : scope.names.lookup ("super" : Str) = some .globalImplicit
  kc : scope.names.lookup ("__class__" : Str) = some .free
  ka : scope.names.lookup sf = some .local
  top : (P.main.scope.names.lookup ("super" : Str)).isSome = false
  opq : PySem.W.nsIn K cStatics "thirdparty.any" = some none
  meth : PySem.W.ks_superIn K D D "__init__" = some (some (.builtin "RuntimeError.__init__"))
section
variable {P : Program} {w : World} {K : PySem.W.Frag} {mg : Str → Option Value} {base : Heap} {k : Nat} {f cc D : Addr} {name qual sf : Str} {params : Arguments} {scope : Scope} {dV kV doc pm cdv ct oc : Value} {an od : Option Addr}
  {osl : Array (Option Value)} {N ps : List Str} {post : List Stmt} {p0 p1 ap cp ep : Pos} {e : Expr} {es : List Expr}
theorem run_supE {A : Around} {outer : List Env} {s : Shared} {H : Hp} {args : Args} {us : List Value} {vs : List V} {Q : VK} {E : XK}
    (lk : K.lookup f = some ⟨oc, od, .func (PySem.W.ksFn name qual params (.Expr (.Call (.Attribute (.Call (.Name "super" p0) [] [] p1) "__init__" ap) (e :: es) [] cp) ep :: post) scope dV kV doc pm an cdv ct cc), osl⟩) (hcd : PySem.W.codeIn K cdv qual = true)
    (S : FnScopeS N ps scope) (h0 : N[0]? = some sf) (C : SupE P K mg scope params D cc cdv sf) (T : RfC K D) (hr : Room (k + 1) A) (e0 : Env0 P w K mg base A outer s H)
    (hb : bindArgs (PySem.W.ksFn name qual params (.Expr (.Call (.Attribute (.Call (.Name "super" p0) [] [] p1) "__init__" ap) (e :: es) [] cp) ep :: post) scope dV kV doc pm an cdv ct cc) args = pure (ps.zip us)) (r : Vals vs us) (hl : vs.length = ps.length)
    (hst : ∀ env : Env, starEach (e :: es) env = (false, eval e env) :: starEach es env) (hpl : ∀ env : Env, (backTo cp (starEach (e :: es) env)).any (·.1) = false)
    (hev : ∀ env : Env, ∃ pl : Sem Bool, eval (.Call (.Attribute (.Call (.Name "super" p0) [] [] p1) "__init__" ap) (e :: es) [] cp) env = (do
      let ov ← attributeBase (.Call (.Name "super" p0) [] [] p1) "__init__" env (eval (.Call (.Name "super" p0) [] [] p1) env)
      standAt ap.atName
      let (f, first) ← holding [ov] (getMethod ov "__init__" pl)
      callWith cp f first (backTo cp (starEach (e :: es) env)) []))
    (hbody : ∃ ta tpost, PA (cxS C8.CX0 P w K mg base N qual scope f cdv cc A outer s H E) (e :: es) ta ∧ PSs (cxS C8.CX0 P w K mg base N qual scope f cdv cc A outer s H E) post tpost ∧
      ∃ x, (L2.start N vs)[0]? = some (some (.ref x)) ∧ H x = some (exo x D none) ∧ ta (L2.start N vs) H fun ws H3 => H3 x = some (exo x D none) ∧ ws.length ≤ 1000 ∧ tpost { nx := fun _ H' => Q .non H', rt := Q } (L2.start N vs) H3) :
    codeAny (model P w) A (.call (.ref f) args) (CR C8.CX0 outer P w H s Q E) s := by
  obtain ⟨cl, cld, csl, hcc⟩ := C.cell
  obtain ⟨cdD, hD⟩ := C.cls
  obtain ⟨cda, ccl, cdd, vs0, ccs, file, tf, rfl, hcda, hvs, hfile⟩ := C.code
  obtain ⟨ar, hpar, har⟩ := C.par
  obtain ⟨ta, tpost, ha, hpost, x, hσ, hHx, hq⟩ := hbody
  have KX : K.In s.heap := e0.mod.kin.keeps fun b o e => (e0.bs b o e).1
  have lim : s.heap.NoLimit := e0.mod.nolimit.keeps fun b o e => (e0.bs b o e).1
  have hloc : ∀ y ∈ ps.zip us, (scope.names.lookup y.1 = some .local) := fun y hy => S.par y.1 (List.of_mem_zip hy).1
  refine codeAny_call_function hr.depth (KX _ _ lk) rfl S.co S.gen rfl (PySem.W.codeRec_of KX hcd) ?_
  rw [hb]
  refine wpAny_pure ?_
  refine wpAny_newFunctionEnv S.nocell hloc (fun h1 hns hsb => ⟨lim.fresh _ hsb, ks_codeAny_funcAt ?_⟩) S.kind
  have hk : ∀ b o, s.heap.get? b = some o → h1.get? b = some o := fun b o e => hsb.extBut b o (Nat.ne_of_lt (Heap.lt_size e)) (Heap.get?_push_of_some _ e)
  have J : Inv (cxS C8.CX0 P w K mg base N qual scope f (.ref cda) cc A outer s H E) [] (L2.start N vs) H { s with heap := h1, toks := s.toks + (ps.zip us).length } := inv_startS S hr.hd e0 hl r hcc hns hk
  have fin : ∀ {σ' : L2.St} {H' : Hp} {v' : V} {u' : Value} {s' : Shared}, Inv (cxS C8.CX0 P w K mg base N qual scope f (.ref cda) cc A outer s H E) [] σ' H' s' → RelV v' u' → Q v' H' → CE outer P w H s Q u' s' :=
    fun {σ' H' v' u' s'} J rv' q => ⟨v', H', J.os, J.bare, J.base, J.hok, rv', q⟩
  have bad : ∀ e s', (cxS C8.CX0 P w K mg base N qual scope f (.ref cda) cc A outer s H E).xe e s' → wpAny (model P w) (A.deeper (PySem.W.ksEnv qual scope s.heap.objs.size f (.ref cda) cc)) (leaving (PySem.W.ksEnv qual scope s.heap.objs.size f (.ref cda) cc) e)
      (fun _ s'' => CR C8.CX0 outer P w H s Q E (.error e) s'') (fun e' s'' => CR C8.CX0 outer P w H s Q E (.error e') s'') s' := fun e s' z => z
  refine ks_wpAt_mono (Q := fun fl s' => SP (cxS C8.CX0 P w K mg base N qual scope f (.ref cda) cc A outer s H E) [] { nx := fun _ H' => Q .non H', rt := Q } fl s') (ks_wpAt_execs_cons ?_) (fun fl s' hs => ?_) bad
  rotate_left
  · cases fl with
    | ret u' =>
      obtain ⟨v', σ', H', J, rv', q⟩ := hs
      exact fin J rv' q
    | next =>
      obtain ⟨σ', H', J, q⟩ := hs
      exact fin (v' := V.non) (u' := Value.none) J rfl q
    | brk =>
      obtain ⟨_, _, _, q⟩ := hs
      exact False.elim q
    | cont =>
      obtain ⟨_, _, _, q⟩ := hs
      exact False.elim q
  generalize hs' : ({ s with heap := h1, toks := s.toks + (ps.zip us).length } : Shared) = s' at J
  refine ks_wpAt_mono (Q := fun fl s' => fl = .next ∧ ∃ H4, Inv (cxS C8.CX0 P w K mg base N qual scope f (.ref cda) cc A outer s H E) [] (L2.start N vs) H4 s' ∧ tpost { nx := fun _ H' => Q .non H', rt := Q } (L2.start N vs) H4)
    (ks_wpAt_Expr_any ?_ (by unfold interactive; rw [show (newEnv scope s.heap.objs.size mainGlobals [("__class__", cc)] (qual ++ ".<locals>.") (some f) (Value.ref cda) none builtinsNs).scope.kind = .function from S.kind]; rfl)) (fun fl s' z => ?_) fun e s' z => z
  rotate_left
  · obtain ⟨rfl, H4, J4, q4⟩ := z
    dsimp only
    exact wpAt_of_wpAny (hpost.run [] _ _ _ _ J4 q4)
  have KJ : K.In s'.heap := J.kIn
  obtain ⟨m, hn, look⟩ := J.loc
  obtain ⟨u, ru, lku⟩ := look 0 sf (.ref x) h0 hσ (.inl C.ka)
  obtain rfl : u = .ref x := ru
  have hmx : m sf = some (.ref x) := by
    rcases lku with ⟨_, z⟩ | ⟨z, _⟩
    · exact z
    · have z : scope.names.lookup sf = some .cell ∨ scope.names.lookup sf = some .free := z
      rw [C.ka] at z
      rcases z with z | z <;> cases z
  have hcell : s'.heap.get? cc = some ⟨cl, cld, .cell (some (.ref D)), csl⟩ := KJ _ _ hcc
  obtain ⟨oD, hD0, hD1, hD2⟩ : ∃ oD, base.get? D = some oD ∧ s'.heap.get? D = some oD ∧ oD.data = .cls cdD := by
    unfold PySem.W.clsIn at hD
    split at hD
    · rename_i ho
      cases hD
      exact ⟨_, e0.mod.kin _ _ ho, KJ _ _ ho, rfl⟩
    · cases hD
  obtain ⟨t1, hox⟩ := exo_at J.hok hHx
  have hmeth := C.meth
  unfold PySem.W.ks_superIn at hmeth
  rw [hD] at hmeth
  obtain ⟨pl, hpl2⟩ := hev (PySem.W.ksEnv qual scope s.heap.objs.size f (.ref cda) cc)
  refine ks_wpAt_MethodCall (pl := pl) ?_ hpl2
  refine ks_wpAt_mono (ks_wpAt_super_base (Q := fun ov s1 => ov = .ref s'.heap.objs.size ∧ ∃ h', s1 = { s' with heap := h' } ∧ h'.get? s'.heap.objs.size = some (PySem.W.ks_superObj D x D) ∧ (∀ y o, s'.heap.get? y = some o → h'.get? y = some o))
    C.ks C.kc (by decide) rfl (KJ _ _ lk) rfl hpar rfl (KJ _ _ hcda) rfl hvs hfile C.top ?_) (fun ov s1 z => ?_) fun e s' z => z
  · obtain ⟨mb, hmb, hmb2⟩ := J.mod.blt
    refine PySem.W.ks_loadName_global S.kind C.ks (PySem.Calls.loadGlobal_builtin (env := PySem.W.ksEnv qual scope s.heap.objs.size f (.ref cda) cc) (J.mod.glob.keeps J.bk) C.nosup (hmb.keeps J.bk) ((hmb2 _ (by decide +kernel)).trans (show bootBuiltins "super" = some (.type "super") by decide +kernel)) ⟨rfl, ?_⟩)
    refine wpAny_loadName_free S.kind C.kc (c := cc) rfl ⟨_, hcell, rfl⟩ ?_
    have har' : m ar.arg = some (.ref x) := by rw [har]; exact hmx
    refine wpAny_loadName_local S.kind (by rw [har]; exact C.ka) hn har' ?_
    refine ks_wpAny_isType_cls hD1 hD2 ⟨rfl, ?_⟩
    obtain ⟨hh, g, d, t, os⟩ := s'
    exact ks_wpAny_call_super hD1 hD2 hox rfl (fun c z => by cases z) (PySem.W.looks_mroIn KJ C.sub) fun h' e k => ⟨rfl, h', rfl, e, k⟩
  · obtain ⟨rfl, h', rfl, hso, hk'⟩ := z
    have J1 : Inv (cxS C8.CX0 P w K mg base N qual scope f (.ref cda) cc A outer s H E) [] (L2.start N vs) H { s' with heap := h' } := J.kept (t' := s'.toks) hk'
    have xD : x ≠ D := fun q => by
      have z := (J.bs _ _ hD0).2
      rw [← q, hHx] at z
      cases z
    have inst : PySem.W.InstAt h' x { cls := .ref D, dict := none, data := .fields #[.ref t1, .none, .none, .none, .bool false, .none] } D none := ⟨hk' _ _ hox, rfl, rfl, trivial⟩
    obtain ⟨hh, g, d, t, os⟩ := s'
    refine PySem.W.kxs_getMethod PySem.W.kxs_RuntimeError hso (PySem.W.looks_opaque J1.kIn C.opq) (l₀ := cdD.mro) (fun A Q E s k q => wpAny_bind ((PySem.W.looks_clsIn J1.kIn hD) A _ E s k (wpAny_pure q))) rfl J1.kIn hmeth (inst.type.andThen (PySem.W.looks_subIn J1.kIn T.isB)) xD (by decide) ?_
    have hq0 : H h'.objs.size = none := J1.hok.fresh (Nat.le_refl _)
    have hget : (h'.push (PySem.W.kxs_mw "RuntimeError.__init__" x)).get? h'.objs.size = some (PySem.W.kxs_mw "RuntimeError.__init__" x) := Heap.get?_push_size h' rfl
    have J2 : Inv (cxS C8.CX0 P w K mg base N qual scope f (.ref cda) cc A outer s H E) [] (L2.start N vs) H ⟨h'.push (PySem.W.kxs_mw "RuntimeError.__init__" x), g, d, t + 1, os⟩ := J1.kept (t' := t + 1) fun b o z => Heap.get?_push_of_some _ z
    have J3 := J2.pins_of (pins' := [(h'.objs.size, PySem.W.kxs_mw "RuntimeError.__init__" x)]) fun p hp => by
      rw [List.mem_singleton.mp hp]
      exact ⟨hget, hq0, Nat.ne_of_gt J1.lt, J1.nofs (Nat.le_refl _), fun v z => by cases z⟩
    have run := ha.run cp [(h'.objs.size, PySem.W.kxs_mw "RuntimeError.__init__" x)] _ _ _ _ J3 hq
    have envs : (cxS C8.CX0 P w K mg base N qual scope f (.ref cda) cc A outer s H E).env = PySem.W.ksEnv qual scope s.heap.objs.size f (.ref cda) cc := rfl
    rw [envs, hst] at run
    show wpAny _ _ (callWith cp (.ref h'.objs.size) [] (backTo cp (starEach (e :: es) (PySem.W.ksEnv qual scope s.heap.objs.size f (.ref cda) cc))) []) _ _ _
    have hp := hpl (PySem.W.ksEnv qual scope s.heap.objs.size f (.ref cda) cc)
    rw [hst] at hp ⊢
    refine PySem.W.kxs_callWith (i := "RuntimeError.__init__") (x := x) hp (PySem.Calls.evalArgs_plain ?_)
    refine thn run fun us3 s3 ⟨ws, H3, J4, r3, hx3, hl3, hp3⟩ => ?_
    have hu3 := (J4.pin _ (List.mem_append_right _ (List.mem_singleton.mpr rfl))).1
    refine ⟨hu3, rf_call T J4 hx3 hu3 (by show us3.length ≤ 1000; rw [← r3.length]; exact hl3) fun s4 J5 => ⟨rfl, H3, J5.pins_of (pins' := []) fun p hp => absurd hp (by simp), hp3⟩⟩
end
def tRst (K : PySem.W.Frag) (C : Addr) (f : Str) (to te : TE) : TS := fun D σ H => te σ H fun y H1 => to σ H1 fun x H2 => ∃ a : Addr, x = .ref a ∧ RfC K C ∧ PySem.W.takerIn K C f = some none ∧
  ((H2 a = some (exo a C none) ∧ ∀ dx, H2 dx = none → dx ≠ a → D.nx σ (upd (upd H2 dx (exd dx [(f, y)])) a (exo a C (some dx)))) ∨
    ∃ (dx : Addr) (fs : List (Str × V)), H2 a = some (exo a C (some dx)) ∧ H2 dx = some (exd dx fs) ∧ fs.length ≤ 900 ∧ D.nx σ (upd H2 dx (exd dx ((f, y) :: fs))))
theorem ps_rst {X : Cx} {C : Addr} {o e : Expr} {to te : TE} {f : Str} {p' pos : Pos} (ho : PE X o to) (he : PE X e te) (hs : swapsWith e (some (.Attribute o f p')) pos.line X.env = pure false := by rfl) : PS X (.Assign [.Attribute o f p'] e pos) (tRst X.K C f to te) := by
  refine ⟨fun pins s σ H D I h => ?_⟩
  refine plainObj_wpAny_Assign_Attribute (thn (he.run pins s σ H _ I h) fun v s1 ⟨y, H1, I1, r1, q1⟩ => thn (ho.run pins s1 σ H1 _ I1 q1) fun u s2 ⟨x, H2, I2, r2, a, ex, T, hno, q⟩ => ?_) hs
  subst ex
  obtain rfl : u = Value.ref a := r2
  rcases q with ⟨ea, q⟩ | ⟨dx, fs, ea, ed, hl, q⟩
  · exact rf_new T I2 ea hno r1 fun dx s' n ne J => ⟨σ, _, J, q dx n ne⟩
  · exact rf_old T I2 ea ed hl hno r1 fun s' J => ⟨σ, _, J, q⟩
/-- C(i, w) of the exception class at C, for a raise -/
def tMkRf (C : Addr) (ta : TA) : L2.St → Hp → XK → Prop := fun σ H Q => ta σ H fun vs H1 => ∃ i w, vs = [i, w] ∧ ∀ d H', H1 d = none → Ex H1 H' → H' d = some (.xd [("word", w), ("index", i)]) → Q (.ref C) (some d) H'
abbrev spRf (C : Addr) : SpI := fun vs _ H Q => ∃ x i w, vs = [.ref x, i, w] ∧ H x = some (exo x C none) ∧ ∀ d H', H d = none → d ≠ x → ExB x H H' → H' x = some (exo x C (some d)) → H' d = some (exd d [("word", w), ("index", i)]) → Q .non H'
structure MakR (P : Program) (w : World) (K : PySem.W.Frag) (mg : Str → Option Value) (base : Heap) (k : Nat) (x : Str) (C : Addr) : Prop where
  ex : ∃ f, RfC K C ∧ mg x = some (.ref C) ∧ PySem.W.findIn K (.ref C) "__init__" = some (some (.ref f)) ∧ PySem.W.typeIn K (.ref f) = some (.type "function") ∧ IniR P w K mg base k f [] (spRf C)
theorem pmk_rf {X : Cx} {x : Str} {C : Addr} {k j : Nat} {e : Expr} {es : List Expr} {ta : TA} {p pos : Pos} (c : MakR X.prog X.w X.K X.mg X.base k x C) (hr : Room j X.A) (hk : k + 1 ≤ j) (hg : Gl X x) (ha : PA X (e :: es) ta) (hdb : (x == ("__debug__" : Str)) = false := by decide)
    (he : starEach (e :: es) X.env = (false, eval e X.env) :: starEach es X.env := by rfl) (hpl : (backTo pos (starEach es X.env)).any (·.1) = false := by rfl) : PMk X (.Call (.Name x p) (e :: es) [] pos) (tMkRf C ta) := by
  intro pins s σ H Q I h
  obtain ⟨f, T, hm, hi, ht, F9⟩ := c.ex
  refine wpAny_Call_Name_kw (ld_glob I hg hm ?_ hdb)
  refine PySem.W.callWith_K (h₀ := X.base) I.ok.mod.kin T.kC (thn (ha.run pos pins s σ H _ I h) fun us s1 ⟨vs, H1, I1, r1, i, w, ev, q1⟩ => ⟨I1.kIn, ?_⟩) he hpl
  subst ev
  show wpAny _ _ (call (.ref C) us) _ _ _
  obtain ⟨nm, N', qn, bs, bm, hdct, sn, sub, ab, col, dd, k0, k1, k2, k3, k5, hC, hT⟩ := PySem.W.excInit_of I1.kIn T.init
  obtain ⟨hp, g, dr, tk, os⟩ := s1
  have up : hp.objs.size ≤ hp.objs.size + 1 := Nat.le_succ _
  have hn : H1 (hp.objs.size + 1) = none := I1.hok.fresh up
  have kk : ∀ b o, hp.get? b = some o → ((hp.push (PySem.W.kdv_tup us)).push (PySem.HandSPX.excO C hp.objs.size)).get? b = some o := fun b o e => Heap.get?_push_of_some _ (Heap.get?_push_of_some _ e)
  have at1 : ((hp.push (PySem.W.kdv_tup us)).push (PySem.HandSPX.excO C hp.objs.size)).get? (hp.objs.size + 1) = some (PySem.HandSPX.excO C hp.objs.size) := by heap_get
  have I2 : Inv X pins σ (upd H1 (hp.objs.size + 1) (exo (hp.objs.size + 1) C none)) ⟨(hp.push (PySem.W.kdv_tup us)).push (PySem.HandSPX.excO C hp.objs.size), g, dr, tk, os⟩ := I1.laid (t' := tk) kk up (exo_ok at1)
  have r2 : Vals [V.ref (hp.objs.size + 1), i, w] (Value.ref (hp.objs.size + 1) :: us) := .cons rfl r1
  have hus : us.length ≤ sizeLine := by
    rw [← Paired.length r1, sizeLine_eq]
    exact (by decide : (2 : Nat) ≤ 16777216)
  have hq : spRf C [V.ref (hp.objs.size + 1), i, w] [] (upd H1 (hp.objs.size + 1) (exo (hp.objs.size + 1) C none)) (fun v H2 => v = .non ∧ ∃ d, H1 d = none ∧ H2 (hp.objs.size + 1) = some (exo (hp.objs.size + 1) C (some d)) ∧ H2 d = some (exd d [("word", w), ("index", i)]) ∧ Q (.ref C) (some d) (upd (L2.del H2 (hp.objs.size + 1)) d (.xd [("word", w), ("index", i)]))) := by
    refine ⟨hp.objs.size + 1, i, w, rfl, upd_same, fun d H2 hd dne b g1 g2 => ⟨rfl, d, ?_, g1, g2, q1 d _ ?_ (fun c o hc => ?_) upd_same⟩⟩
    · rw [upd_ne dne] at hd; exact hd
    · rw [upd_ne dne] at hd; exact hd
    · have ne1 : c ≠ hp.objs.size + 1 := fun z => by rw [z, hn] at hc; cases hc
      have ne2 : c ≠ d := fun z => by rw [upd_ne dne] at hd; rw [z, hd] at hc; cases hc
      rw [upd_ne ne2, L2.del_ne ne1]
      exact b c o (by rw [upd_ne ne1]; exact hc) ne1
  refine wpAny_call (PySem.HandSPX.call_own F.excBase_RuntimeError hT hC (PySem.W.looks_findIn I1.kIn hi) (fun self => PySem.W.bind_fn I1.kIn self ht) hus
    (codeAny_mono (F9 _ X.stack _ _ (Value.ref (hp.objs.size + 1) :: us) [] _ [] _ C8.E0 ((hr.mono hk).make C us []) (I2.env0.make C us []) r2 .nil rfl hq) fun r s' hq' => ?_))
  cases r with
  | error er => exact False.elim hq'
  | ok fl =>
    cases fl with
    | ret u =>
      obtain ⟨v, H2, os2, bare2, un2, hok2, rv, ev, d, hd1, ea, ed, q2⟩ := hq'
      subst ev
      obtain ⟨h2, g2, d2, t2, os'⟩ := s'
      exact ⟨rv, mk_end (raises_own T.exC T.tyC) I1 up kk un2 hok2 os2 bare2 ea ed hd1 q2⟩
    | next => exact False.elim hq'
    | brk => exact False.elim hq'
    | cont => exact False.elim hq'
end Tl
end

section
set_option Elab.async false
set_option linter.all false
set_option maxRecDepth 100000
set_option maxHeartbeats 4000000
/-! Refused.__init__, unpack_one. -/
namespace Tl
open PySem PySem.Spec PyProof.Rows L2 Evl
open Tar (By)
open C8 (Cal Met Mak pe_c pe_mk pe_mt pe_mt0 pe_gc fnScope_by)
section
variable {P : Program} {w : World} {K : PySem.W.Frag} {mg : Str → Option Value} {base : Heap} {a : Ad}
abbrev nm_Refused___init : List Str := ["self", "index", "word"]
theorem sc_Refused___init : FnScopeS nm_Refused___init ["self", "index", "word"] (defScope s_Refused___init) := fnScopeS_by (by decide +kernel)
theorem bind_Refused (doc pm : Value) (an : Option Addr) (cdv ct : Value) (cc : Addr) (x i w : Value) : bindArgs (PySem.W.ksFn "__init__" "Refused.__init__" (C8.fnArgs s_Refused___init) (C8.fnBody s_Refused___init) (C8.fnScope s_Refused___init) .none .none doc pm an cdv ct cc) ⟨[x, i, w], ([] : List Str).zip []⟩ =
    pure ((["self", "index", "word"] : List Str).zip [x, i, w]) := by kernel_rfl
structure SupRf (P : Program) (K : PySem.W.Frag) (mg : Str → Option Value) (D f : Addr) : Prop where
  ex : ∃ (cc : Addr) (oc : Value) (od : Option Addr) (doc pm : Value) (an : Option Addr) (cdv ct : Value) (osl : Array (Option Value)),
    K.lookup f = some ⟨oc, od, .func (PySem.W.ksFn "__init__" "Refused.__init__" (C8.fnArgs s_Refused___init) (C8.fnBody s_Refused___init) (C8.fnScope s_Refused___init) .none .none doc pm an cdv ct cc), osl⟩ ∧ PySem.W.codeIn K cdv "Refused.__init__" = true ∧ SupE P K mg (C8.fnScope s_Refused___init) (C8.fnArgs s_Refused___init) D cc cdv "self"
theorem ok_Refused_init {f : Addr} (T : RfC K a.cRef) (F : SupRf P K mg a.cRef f) : IniR P w K mg base 1 f [] (spRf a.cRef) := by
  obtain ⟨cc, oc, od, doc, pm, an, cdv, ct, osl, lk, hcd, C⟩ := F.ex
  intro A outer s H us ws vs zs Q E hr e0 r rz hl h
  obtain ⟨x, i, w, rfl, hx, k⟩ := h
  obtain ⟨x', i', w', rfl, r1, r2, r3⟩ : ∃ u1 u2 u3, us = [u1, u2, u3] ∧ RelV (.ref x) u1 ∧ RelV i u2 ∧ RelV w u3 := by
    cases r with | cons a1 r => cases r with | cons a2 r => cases r with | cons a3 r => cases r; exact ⟨_, _, _, rfl, a1, a2, a3⟩
  have hws : ws = [] := by
    cases rz with
    | nil => rfl
    | cons _ _ => simp at hl
  subst hws
  refine run_supE (k := 0) (post := (C8.fnBody s_Refused___init).drop 1) lk hcd sc_Refused___init rfl C T hr e0 (bind_Refused ..) (.cons r1 (.cons r2 (.cons r3 .nil))) rfl (fun env => rfl) (fun env => rfl) (fun env => ⟨_, rfl⟩) ⟨_, _, (pa_cons pe_str pa_nil), (pss_cons (ps_rst (C := a.cRef) (pv 0) (pv 1))
    (pss_one (ps_rst (C := a.cRef) (pv 0) (pv 2)))), x, rfl, hx, ?_⟩
  refine ⟨hx, by simp, ?_⟩
  refine ⟨i, rfl, .ref x, rfl, x, rfl, T, T.tI, Or.inl ⟨hx, fun d hd dne => ?_⟩⟩
  refine ⟨w, rfl, .ref x, rfl, x, rfl, T, T.tW, Or.inr ⟨d, [("index", i)], upd_same, by rw [upd_ne dne]; exact upd_same, by simp, ?_⟩⟩
  refine k d _ hd dne (fun b o hb n => ?_) (by rw [upd_ne (Ne.symm dne)]; exact upd_same) upd_same
  have nd : b ≠ d := fun z => by rw [z, hd] at hb; cases hb
  rw [upd_ne nd, upd_ne n, upd_ne nd]
  exact hb
abbrev nm_put_member : List Str := ["house", "member"]
theorem sc_put_member : FnScope nm_put_member ["house", "member"] (defScope s_put_member) := fnScope_by (by decide +kernel)
theorem ok_put_member (T : Txt K mg a) (M : Mcl K a) (F : DB K mg "put_member" s_put_member ["house", "member"]) (c_put_at : Cal P w K mg base 3 "put_at" (spPut K a) []) :
    Cal P w K mg base 4 "put_member" (fun vs H Q _ => ∃ p dx st fi ro S q m, vs = [.ref p, .ref q] ∧ HAt K a H p dx st fi ro S ∧ S.Wf 40 ∧ MemAt a H q m ∧ m.Ok ∧ S.refuse m = "" ∧ ∀ H', ExO [st, fi] H H' → HAt K a H' p dx st fi ro (S.put m) → Q .non H') [] := by
  refine cal_of F sc_put_member (fun vs H Q E h => by obtain ⟨p, dx, st, fi, ro, S, q, m, rfl, _⟩ := h; rfl) fun f cdv A outer s H vs Q E hr h => ⟨_, (pss_one (ps_expr (C8.pe_c c_put_at hr (by decide) rfl (pa_cons (pv 0) (pa_cons (pe_fld (pv 1) rfl) (pa_cons (pv 1) (pa_cons (pe_ifExp (pt_cmpR op_eq (pe_con (pv 1) rfl) pe_str (nomark _)) (pe_fld (pv 1) rfl) pe_str) pa_nil))))))), ?_⟩
  obtain ⟨p, dx, st, fi, ro, S, q, m, rfl, hh, W, hm, hok, href, k⟩ := h
  refine s_dropC (ea_cons (ev_var rfl) (ea_cons (ev_name M hm (ev_var rfl)) (ea_cons (ev_var rfl) (ea_cons (ev_tg M hm (ev_var rfl)) ea_nil)))) fun H1 e1 => ?_
  exact ⟨p, dx, st, fi, ro, S, q, m, rfl, hh.mono e1, W, hm.mono M.ap (ExT.of e1), hok, href, fun H2 e2 h2 => k H2 ((ExO.of e1).trans e2) h2⟩
/-- a def that may let an exception out -/
structure CalX (P : Program) (w : World) (K : PySem.W.Frag) (mg : Str → Option Value) (base : Heap) (k : Nat) (x : Str) (sp : Sp) : Prop where
  ex : ∃ (f : Addr) (fd : FuncData) (ps : List Str), FnOk P w K mg base (L2.CX P w) k f fd ps sp ∧ mg x = some (.ref f) ∧ PySem.W.keepIn K (.ref f) = true ∧ Binds K fd ps []
theorem calx_of {x : Str} {st : Stmt} {N ps : List Str} {k : Nat} {sp : Sp} (F : DB K mg x st ps) (S : FnScope N ps (defScope st)) (len : ∀ vs H Q E, sp vs H Q E → vs.length = ps.length)
    (hbody : ∀ (f : Addr) (cdv : Value) (A : Around) (outer : List Env) (s : Shared) (H : Hp) (vs : List V) (Q : VK) (E : XK), Room k (A.deeper (envOfC x (defScope st) s.heap.objs.size f cdv)) → Takes (cxOf (L2.CX P w) P w K mg base N x (defScope st) f cdv A outer s H E) (fun cls d _ H => E cls d H) → sp vs H Q E →
      ∃ t, PSs (cxOf (L2.CX P w) P w K mg base N x (defScope st) f cdv A outer s H E) (defBody st) t ∧ t { nx := fun _ H' => Q .non H', rt := Q } (L2.start N vs) H) : CalX P w K mg base (k + 1) x sp := by
  obtain ⟨f, fd, F, hm, b⟩ := F.ex
  have kp := F.kp
  obtain ⟨oc, od, kV, doc, pm, an, cdv, ct, osl, rfl, lk, hcd⟩ := F.ex
  exact ⟨f, _, ps, fn_of lk hcd S len fun A outer s H vs Q E hr h => hbody f cdv A outer s H vs Q E hr (takes_of rfl rfl rfl rfl) h, hm, kp, b⟩
abbrev nm_unpack_one : List Str := ["house", "index", "member", "word"]
theorem sc_unpack_one : FnScope nm_unpack_one ["house", "index", "member"] (defScope s_unpack_one) := fnScope_by (by decide +kernel)
abbrev spUnp (K : PySem.W.Frag) (a : Ad) : Sp := fun vs H Q E => ∃ p dx st fi ro S q m, ∃ i : Nat, vs = [.ref p, vN i, .ref q] ∧ HAt K a H p dx st fi ro S ∧ S.Wf 40 ∧ MemAt a H q m ∧ m.Ok ∧
  (S.refuse m = "" → ∀ H', ExO [st, fi] H H' → HAt K a H' p dx st fi ro (S.put m) → Q .non H') ∧
  (S.refuse m ≠ "" → ∀ d H', Ex H H' → H d = none → H' d = some (.xd [("word", .str (S.refuse m)), ("index", vN i)]) → E (.ref a.cRef) (some d) H')
abbrev spPutM (K : PySem.W.Frag) (a : Ad) : Sp := fun vs H Q _ => ∃ p dx st fi ro S q m, vs = [.ref p, .ref q] ∧ HAt K a H p dx st fi ro S ∧ S.Wf 40 ∧ MemAt a H q m ∧ m.Ok ∧ S.refuse m = "" ∧ ∀ H', ExO [st, fi] H H' → HAt K a H' p dx st fi ro (S.put m) → Q .non H'
theorem ok_unpack_one (T : Txt K mg a) (M : Mcl K a) (F : DB K mg "unpack_one" s_unpack_one ["house", "index", "member"]) (c_refusal : Cal P w K mg base 4 "refusal" (spV 2 (rRef K a)) []) (c_put_member : Cal P w K mg base 4 "put_member" (spPutM K a) [])
    (c_Refused : MakR P w K mg base 1 "Refused" a.cRef) : CalX P w K mg base 5 "unpack_one" (spUnp K a) := by
  refine calx_of F sc_unpack_one (fun vs H Q E h => by obtain ⟨p, dx, st, fi, ro, S, q, m, i, rfl, _⟩ := h; rfl) fun f cdv A outer s H vs Q E hr tk h => ⟨_, (pss_cons (ps_set (i := 3) sc_unpack_one.nd rfl (Or.inl rfl) (C8.pe_c c_refusal hr (by decide) rfl (pa_cons (pv 0) (pa_cons (pv 2) pa_nil))))
    (pss_cons (ps_if (pt_cmpR op_ne (pv 3) pe_str (nomark _)) (pss_one (ps_raise rfl tk (pmk_rf c_Refused hr (by decide) rfl (pa_cons (pv 1) (pa_cons (pv 3) pa_nil))))) pss_nil)
    (pss_one (ps_expr (C8.pe_c c_put_member hr (by decide) rfl (pa_cons (pv 0) (pa_cons (pv 2) pa_nil))))))), ?_⟩
  obtain ⟨p, dx, st, fi, ro, S, q, m, i, rfl, hh, W, hm, hok, k1, k2⟩ := h
  refine q_asg (ev_callV (ea_cons (ev_var rfl) (ea_cons (ev_var rfl) ea_nil)) rfl fun H1 e1 => ⟨p, dx, st, fi, ro, S, q, m, rfl, hh.mono e1, hm.mono M.ap (ExT.of e1), hok.base.nm, rfl⟩) fun H1 e1 => ?_
  refine q_when (et_ne (ev_var (v := .str (S.refuse m)) rfl) ev_c rfl) (fun h H2 e2 => ?_) fun h H2 e2 => ?_
  · have ne : S.refuse m ≠ "" := by simpa using h
    refine (ea_cons (ev_var rfl) (ea_cons (ev_var rfl) ea_nil)) H2 (Ex.refl H2) _ fun H3 e3 => ⟨vN i, .str (S.refuse m), rfl, fun d H' hd e g => ?_⟩
    have e13 := (e1.trans e2).trans e3
    exact k2 ne d H' (e13.trans e) (fresh_back e13 hd) g
  · have eq : S.refuse m = "" := by simpa using h
    have e12 := e1.trans e2
    refine s_dropC (ea_cons (ev_var rfl) (ea_cons (ev_var rfl) ea_nil)) fun H3 e3 => ?_
    have e13 := e12.trans e3
    exact ⟨p, dx, st, fi, ro, S, q, m, rfl, hh.mono e13, W, hm.mono M.ap (ExT.of e13), hok, eq, fun H4 e4 h4 => k1 eq H4 ((ExO.of e13).trans e4) h4⟩
end
end Tl
end

section
set_option Elab.async false
set_option linter.all false
set_option maxRecDepth 100000
set_option maxHeartbeats 4000000
/-! A generator that a for statement drives: the code of a for in a generator. -/
namespace Tl
open PySem PySem.Spec PyProof.Rows L2 Evl GenW
section
variable {M : Model} {A : Around} {R : GenEnd} {Y : Protocol} {n : Nat} {s₀ s : Shared} {c : Code} {fs : List Frame} {env : Env} {K : Flow → Sem PySem.Fin} {J : Value → Sem PySem.Fin} {gd : Bool → Bool} {lv : List Value → List Value}
def backK (env : Env) (K : Flow → Sem PySem.Fin) (J : Value → Sem PySem.Fin) (gd : Bool → Bool) (lv : List Value → List Value) : Result → Sem PySem.Fin :=
  fun r => ((match r with | .ok f => (.pure f : Sem Flow) | .error e => .raise e).onRaise (cameBack env)).wrap K J gd lv
theorem seg_For {tg iter : Expr} {body orelse : List Stmt} {pos : Pos} (hs : ∀ x, foldedSetIterable iter env x = pure x)
    (h : wpAny M (A.over c fs) (eval iter env) (fun x s1 => wpAny M (A.over c fs) (pyIter x) (fun it s2 => ∀ p, Seg M A R Y n s₀ (.forLoop tg it body orelse env) (M.den (.forLoop tg it body orelse env)) (.ret (backK env K J gd lv) none (gd false) (lv []) c p [] :: fs) s2)
      (fun x s' => Seg M A R Y n s₀ c (J x) fs s') s1) (fun x s' => Seg M A R Y n s₀ c (J x) fs s') s) :
    Seg M A R Y n s₀ c ((exec (.For tg iter body orelse pos) env).wrap K J gd lv) fs s := by
  rw [exec_For]
  refine seg_bind_wrap (wpAny_standAt ?_)
  refine seg_bind_wrap (wpAny_mono h (fun x s1 h1 => ?_) fun _ _ z => z)
  refine seg_bind_wrap (wpAny_of_eq (hs x) ?_)
  refine seg_bind_wrap (wpAny_standAt ?_)
  refine seg_bind_wrap (wpAny_holding (wpAny_mono h1 (fun it s2 h2 => ?_) fun _ _ z => z))
  exact seg_call h2
end
section
variable {P : Program} {w : World} {A : Around} {R : GenEnd} {Y : Protocol} {n : Nat} {s₀ s : Shared} {fs : List Frame} {env : Env}
def notedJ (env : Env) : Value → Sem PySem.Fin := fun e => (do noteFrame e env; theTreesLotGoes e : Sem Unit).wrap (fun _ => .raise e) .raise id id
theorem seg_noted {c : Code} {x : Value} {s' : Shared} (h : Seg (model P w) A R Y n s₀ c (notedJ env x) fs s') : Seg (model P w) A R Y n s₀ c ((do noteFrame x env; theTreesLotGoes x : Sem Unit).bind fun _ => .raise x) fs s' := by
  rw [Sem.bind_eq_wrap]
  exact h
def forK (tg : Expr) (it : Value) (body orelse : List Stmt) (env : Env) : Flow → Sem PySem.Fin := fun f => match f with
  | .next | .cont => .pure (.again (.forLoop tg it body orelse env))
  | .brk => .pure (.done .next)
  | .ret v => .pure (.done (.ret v))
theorem seg_forLoop {tg : Expr} {it : Value} {body : List Stmt}
    (h : wpAny (model P w) (A.over (.forLoop tg it body [] env) fs) (pyNext it) (fun r s1 => match r with
        | none => Seg (model P w) A R Y n s₀ (.block [] env) (leafOf (.ok .next)) fs s1
        | some v => wpAny (model P w) (A.over (.forLoop tg it body [] env) fs) (letOwnedTupleGo tg it v) (fun _ s2 => wpAny (model P w) (A.over (.forLoop tg it body [] env) fs) (assign tg env v) (fun _ s3 =>
            Seg (model P w) A R Y n s₀ (.forLoop tg it body [] env) ((execs body env).wrap (forK tg it body [] env) (notedJ env) id id) fs s3)
            (fun x s' => Seg (model P w) A R Y n s₀ (.forLoop tg it body [] env) (notedJ env x) fs s') s2)
          (fun x s' => Seg (model P w) A R Y n s₀ (.forLoop tg it body [] env) (notedJ env x) fs s') s1)
      (fun x s' => Seg (model P w) A R Y n s₀ (.forLoop tg it body [] env) (notedJ env x) fs s') s) :
    Seg (model P w) A R Y n s₀ (.forLoop tg it body [] env) ((model P w).den (.forLoop tg it body [] env)) fs s := by
  show Seg _ A R Y n s₀ _ ((forTurn tg it body [] env).onRaise (fun x => do noteFrame x env; theTreesLotGoes x)) fs s
  unfold forTurn
  rw [Sem.onRaise_eq_wrap]
  refine seg_bind_wrap (wpAny_standAt ?_)
  refine seg_bind_wrap (wpAny_onRaise (wpAny_mono h (fun r s1 h1 => ?_) fun x s' hx => wpAny_standAt (seg_noted hx)))
  cases r with
  | none =>
    exact seg_again rfl h1
  | some v =>
    refine seg_bind_wrap (wpAny_mono h1 (fun _ s2 h2 => ?_) fun _ _ z => seg_noted z)
    refine seg_bind_wrap (wpAny_mono h2 (fun _ s3 h3 => ?_) fun _ _ z => seg_noted z)
    rw [Sem.bind_eq_wrap', Sem.wrap_wrap]
    rw [Sem.wrap_congr (execs body env) _ _ (K' := forK tg it body [] env) (H' := notedJ env) (fun f => by cases f <;> rfl) (fun e => by exact Sem.bind_eq_wrap _ _)]
    exact h3
end
/-! ### the contexts of the driver and of the generator -/
structure Drv (X : Cx) : Prop where
  hs : X.stack = X.env :: X.outer
  hf : X.env.frame = some X.env.locals
  ex : X.ex = []
  sz : X.s_0.heap.objs.size = X.env.locals
  cl : ∀ x c, X.env.cells.lookup x = some c → False
  cm : X.calm = true
structure Gfr (X : Cx) (g : Env) : Prop where
  kind : g.scope.kind = .function
  glob : g.globals = mainGlobals
  blt : g.builtins = builtinsNs
  fr : g.frame = some g.locals
  cl : ∀ x c, g.cells.lookup x = some c → False
  kc : ∀ x, g.kindOf x ≠ some .cell ∧ g.kindOf x ≠ some .free
  lt : X.env.locals < g.locals
def H0g (X : Cx) : Hp := fun b => if b = X.env.locals then none else X.H_0 b
def gX (X : Cx) (N : List Str) (g : Env) (pn : List (Addr × Obj)) (o : Obj) (xe : Value → Shared → Prop) : Cx where
  prog := X.prog
  w := X.w
  K := X.K
  mg := X.mg
  base := X.base
  A := X.A.in1.deeper g
  N := N
  s_0 := { X.s_0 with heap := X.s_0.heap.push o }
  H_0 := H0g X
  env := g
  outer := X.stack
  stack := g :: X.stack
  ex := []
  fn := fun _ => true
  calm := true
  pn := pn
  xe := xe
section
variable {X : Cx} {N : List Str} {g : Env} {pn pins : List (Addr × Obj)} {o : Obj} {xe : Value → Shared → Prop} {σ σg : L2.St} {H Hn : Hp} {s sn : Shared}
theorem H0g_L : H0g X X.env.locals = none := if_pos rfl
theorem H0g_ne {b : Addr} (h : b ≠ X.env.locals) : H0g X b = X.H_0 b := if_neg h
theorem old_ne (D : Drv X) {b : Addr} {ob : Obj} (e : X.s_0.heap.get? b = some ob) : b ≠ X.env.locals := fun z => by
  have := Heap.lt_size e
  rw [D.sz, z] at this
  exact Nat.lt_irrefl _ this
theorem push_L (D : Drv X) (ho : s.heap.get? X.env.locals = some o) : (X.s_0.heap.push o).get? X.env.locals = some o := by
  rw [← D.sz]
  exact Heap.get?_push_size _ (Heap.get?_some_iff.mp ho).2
theorem push_cases (D : Drv X) {b : Addr} {ob : Obj} (e : (X.s_0.heap.push o).get? b = some ob) : (b = X.env.locals ∧ ob = o) ∨ (X.s_0.heap.get? b = some ob ∧ b ≠ X.env.locals) := by
  rcases Heap.get?_push_cases e with ⟨e1, e2⟩ | e1
  · exact .inl ⟨e1.trans D.sz, e2⟩
  · exact .inr ⟨e1, old_ne D e1⟩
theorem frs_drv (D : Drv X) : frs X.stack = X.env.locals :: X.fs := by
  rw [D.hs]
  show List.filterMap (·.frame) (X.env :: X.outer) = _
  rw [List.filterMap_cons, D.hf]
  rfl
theorem gX_ok (D : Drv X) (G : Gfr X g) (I : Inv X pins σ H s) (ho : s.heap.get? X.env.locals = some o) : (gX X N g pn o xe).Ok := by
  have pL := push_L D ho
  refine ⟨I.ok.mod, G.kind, G.glob, G.blt, ?_, fun x y c h1 => (G.cl x c h1).elim, fun x h => ?_, fun x c _ h => (G.cl x c h).elim, fun _ => I.ok.hd D.cm, Around.frames_deeper (A := X.A.in1) I.ok.frames, .inr ⟨rfl, G.fr⟩, fun b z => absurd z (by show ¬ b ∈ []; simp), fun b ob e => ?_, ?_, fun b ob _ => (by show ¬ b ∈ []; simp), fun b z => absurd z (by show ¬ b ∈ []; simp), ?_, fun b hb => ?_⟩
  · show (X.s_0.heap.push o).objs.size ≤ g.locals
    rw [Heap.size_push, D.sz]
    exact G.lt
  · rcases h with h | h
    · exact absurd h (G.kc x).1
    · exact absurd h (G.kc x).2
  · obtain ⟨a1, a2⟩ := I.ok.bs b ob e
    exact ⟨Heap.get?_push_of_some _ a1, (H0g_ne (old_ne D a1)).trans a2⟩
  · show X.base.objs.size ≤ (X.s_0.heap.push o).objs.size
    rw [Heap.size_push]
    exact Nat.le_succ_of_le I.ok.bsz
  · show (X.s_0.heap.push o).FunFrames X.base X.stack
    rw [D.hs]
    obtain ⟨m, ⟨o', es, ep, ho', r⟩, _⟩ := I.loc
    rw [ho] at ho'
    cases ho'
    refine Heap.FunFrames.cons (L := X.env.locals) (m := m) (by rw [I.ok.kind]; decide) D.hf ⟨o, es, ep, pL, r⟩ ?_ (Heap.FunFrames.of_keeps (fun b ob e _ => ⟨ob, Heap.get?_push_of_some _ e, rfl⟩) I.ok.funs)
    cases e : X.base.get? X.env.locals with
    | none => rfl
    | some ob => exact absurd rfl (old_ne D (I.ok.bs _ ob e).1)
  · have hb' : b ∈ frs X.stack := hb
    rw [frs_drv D] at hb'
    show H0g X b = none
    by_cases z : b = X.env.locals
    · rw [z]
      exact H0g_L
    · rw [H0g_ne z]
      exact I.ok.frf b ((List.mem_cons.mp hb').resolve_left z)
/-- how a generator's frame sleeps -/
structure Slp (N : List Str) (g : Env) (og : Obj) (σ : L2.St) : Prop where
  ns : ∃ (m : Str → Option Value) (es : Array DictEntry) (ep : Nat), og.data = .dict es ep ∧ StrKeys es ∧ (∀ name, nsFind es name = m name) ∧ ∀ (i : Nat) (x : Str) (v : V), N[i]? = some x → σ[i]? = some (some v) → Vis g.scope x → ∃ u, RelV v u ∧ g.kindOf x = some .local ∧ m x = some u
  len : σ.length = N.length
theorem gX_wake {og : Obj} {gp : List (Addr × Obj)} (D : Drv X) (G : Gfr X g) (I : Inv X pins σ H s) (ho : s.heap.get? X.env.locals = some o) (S : Slp N g og σg) (hg : (g.locals, og) ∈ pins) (hp : ∀ p ∈ pn ++ gp, p ∈ X.pn ++ pins ∧ p.1 ≠ g.locals) :
    Inv (gX X N g pn o xe) gp σg H s := by
  obtain ⟨q1, q2, q3, q4, q5⟩ := I.pin _ (List.mem_append_right _ hg)
  have nx : ∀ b, b ∉ X.ex := fun b => by rw [D.ex]; simp
  have fsub : ∀ {b}, b ∉ frs X.stack → b ∉ X.fs := fun h z => h (by rw [frs_drv D]; exact List.mem_cons_of_mem _ z)
  refine ⟨gX_ok D G I ho, I.os, I.bare, ⟨fun b ob e n hb _ => ?_, fun b ob e n hb _ => ?_, fun b ob e n _ => ?_, fun b ob e _ => ?_, fun b xs e => ?_, fun b ob u e => ?_, fun b ps e => ?_⟩, ?_, fun x c h => (G.cl x c h).elim, q2, fun x c h => (G.cl x c h).elim, fun p hpp => ?_, I.hok, S.len⟩
  · rcases push_cases D e with ⟨e1, _⟩ | ⟨e1, e2⟩
    · exact absurd (show b ∈ frs X.stack by rw [frs_drv D, e1]; exact List.mem_cons_self ..) hb
    · exact I.base.keep b ob e1 ((H0g_ne e2).symm.trans n) (fsub hb) (nx b)
  · rcases push_cases D e with ⟨e1, e3⟩ | ⟨e1, e2⟩
    · rw [e1, e3]
      exact ⟨o.slots, ho⟩
    · have hb' : b ∈ frs X.stack := hb
      rw [frs_drv D] at hb'
      exact I.base.slot b ob e1 ((H0g_ne e2).symm.trans n) ((List.mem_cons.mp hb').resolve_left e2) (nx b)
  · rcases push_cases D e with ⟨e1, _⟩ | ⟨e1, e2⟩
    · rw [e1]
      exact I.free
    · exact I.base.free b ob e1 ((H0g_ne e2).symm.trans n) (nx b)
  · rcases push_cases D e with ⟨e1, _⟩ | ⟨e1, e2⟩
    · rw [e1]
      exact ⟨o, ho⟩
    · exact I.base.there b ob e1 (nx b)
  · have e' : H0g X b = some (.tup xs) := e
    by_cases z : b = X.env.locals
    · rw [z, H0g_L] at e'; cases e'
    · exact I.base.tups b xs ((H0g_ne z).symm.trans e')
  · have e' : H0g X b = some (.frz ob u) := e
    by_cases z : b = X.env.locals
    · rw [z, H0g_L] at e'; cases e'
    · exact I.base.frzs b ob u ((H0g_ne z).symm.trans e')
  · have e' : H0g X b = some (.tbl ps) := e
    by_cases z : b = X.env.locals
    · rw [z, H0g_L] at e'; cases e'
    · exact I.base.tbls b ps ((H0g_ne z).symm.trans e')
  · obtain ⟨m, es, ep, d1, d2, d3, d4⟩ := S.ns
    refine ⟨m, ⟨og, es, ep, q1, d1, d2, d3⟩, fun i x v h1 h2 h3 => ?_⟩
    obtain ⟨u, r, k, e⟩ := d4 i x v h1 h2 h3
    exact ⟨u, r, .inl ⟨k, e⟩⟩
  · obtain ⟨m1, m2⟩ := hp p hpp
    obtain ⟨p1, p2, p3, p4, p5⟩ := I.pin p m1
    refine ⟨p1, p2, m2, fun z => ?_, p5⟩
    have z' : p.1 ∈ frs X.stack := z
    rw [frs_drv D] at z'
    rcases List.mem_cons.mp z' with z | z
    · exact p3 z
    · exact p4 z
theorem gX_sleep {gp : List (Addr × Obj)} (D : Drv X) (G : Gfr X g) (I : Inv X pins σ H s) (ho : s.heap.get? X.env.locals = some o) (J : Inv (gX X N g pn o xe) gp σg Hn sn) (hX : ∀ p ∈ X.pn, p ∈ pn) :
    ∃ og, Slp N g og σg ∧ sn.heap.get? g.locals = some og ∧ (∃ sl, sn.heap.get? X.env.locals = some { o with slots := sl }) ∧ ∀ pins', (∀ p ∈ pins', p ∈ pn ++ gp ∨ p = (g.locals, og)) → Inv X pins' σ Hn sn := by
  obtain ⟨m, ⟨og, es, ep, h1, h2, h3, h4⟩, h5⟩ := J.loc
  have pL := push_L D ho
  have LS : X.env.locals ∈ frs X.stack := by rw [frs_drv D]; exact List.mem_cons_self ..
  obtain ⟨sl, hL⟩ := J.base.slot X.env.locals o pL H0g_L LS (by show ¬ _ ∈ []; simp)
  have nst : ∀ {b ob}, X.s_0.heap.get? b = some ob → b ∉ X.fs → b ∉ frs X.stack := fun {b ob} e hb z => by
    rw [frs_drv D] at z
    rcases List.mem_cons.mp z with z | z
    · exact old_ne D e z
    · exact hb z
  have none_ : ∀ {b ob}, X.s_0.heap.get? b = some ob → X.H_0 b = none → H0g X b = none := fun e n => (H0g_ne (old_ne D e)).trans n
  have ne0 : ∀ {b : Addr} {u : HO}, X.H_0 b = some u → (X.H_0 b = some u → H b ≠ none) → b ≠ X.env.locals := fun {b u} e k z => k e (by rw [z]; exact I.free)
  refine ⟨og, ⟨⟨m, es, ep, h2, h3, h4, fun i x v a1 a2 a3 => ?_⟩, J.len⟩, h1, ⟨sl, hL⟩, fun pins' hp' => ?_⟩
  · obtain ⟨u, r, l⟩ := h5 i x v a1 a2 a3
    rcases l with ⟨k, e⟩ | ⟨k, _⟩
    · exact ⟨u, r, k, e⟩
    · rcases k with k | k
      · exact absurd k (G.kc x).1
      · exact absurd k (G.kc x).2
  · refine ⟨I.ok, J.os, J.bare, ⟨fun b ob e n hb _ => ?_, fun b ob e n hb _ => ?_, fun b ob e n _ => ?_, fun b ob e _ => ?_, fun b xs e => ?_, fun b ob u e => ?_, fun b ps e => ?_⟩, ?_, fun x c h => (D.cl x c h).elim, ?_, fun x c h => (D.cl x c h).elim, fun p hp => ?_, J.hok, I.len⟩
    · exact J.base.keep b ob (Heap.get?_push_of_some _ e) (none_ e n) (nst e hb) (by show ¬ _ ∈ []; simp)
    · exact J.base.slot b ob (Heap.get?_push_of_some _ e) (none_ e n) (by show b ∈ frs X.stack; rw [frs_drv D]; exact List.mem_cons_of_mem _ hb) (by show ¬ _ ∈ []; simp)
    · exact J.base.free b ob (Heap.get?_push_of_some _ e) (none_ e n) (by show ¬ _ ∈ []; simp)
    · exact J.base.there b ob (Heap.get?_push_of_some _ e) (by show ¬ _ ∈ []; simp)
    · exact J.base.tups b xs ((H0g_ne (ne0 e fun e => by rw [I.base.tups b xs e]; simp)).trans e)
    · exact J.base.frzs b ob u ((H0g_ne (ne0 e fun e => by rw [I.base.frzs b ob u e]; simp)).trans e)
    · exact J.base.tbls b ps ((H0g_ne (ne0 e fun e => by obtain ⟨mo, q⟩ := I.base.tbls b ps e; rw [q]; simp)).trans e)
    · obtain ⟨m2, ⟨o', es', ep', ho', r'⟩, hl⟩ := I.loc
      rw [ho] at ho'
      cases ho'
      refine ⟨m2, ⟨_, es', ep', hL, r'⟩, fun i x v a1 a2 a3 => ?_⟩
      obtain ⟨u, r, l⟩ := hl i x v a1 a2 a3
      rcases l with l | ⟨_, c, e, _⟩
      · exact ⟨u, r, .inl l⟩
      · exact (D.cl x c e).elim
    · exact J.base.free X.env.locals o pL H0g_L (by show ¬ _ ∈ []; simp)
    · have fromG : p ∈ pn ++ gp → _ := fun q => J.pin p q
      have main : p ∈ pn ++ gp ∨ p = (g.locals, og) := by
        rcases List.mem_append.mp hp with q | q
        · exact .inl (List.mem_append_left _ (hX p q))
        · exact hp' p q
      rcases main with q | q
      · obtain ⟨p1, p2, _, p4, p5⟩ := J.pin p q
        have p4' : p.1 ∉ frs X.stack := p4
        rw [frs_drv D] at p4'
        exact ⟨p1, p2, fun z => p4' (by rw [z]; exact List.mem_cons_self ..), fun z => p4' (List.mem_cons_of_mem _ z), p5⟩
      · rw [q]
        refine ⟨h1, J.free, Ne.symm (Nat.ne_of_lt G.lt), fun z => ?_, fun v z => ?_⟩
        · obtain ⟨_, ob, e, _⟩ := I.ok.funs.mem z
          have := Heap.lt_size e
          rw [D.sz] at this
          exact absurd (Nat.lt_trans this G.lt) (Nat.lt_irrefl _)
        · have z' : og.data = .cell v := z
          rw [h2] at z'
          cases z'
/-- what the generator's code wishes of an exception: it is in the driver's air -/
def gxe (X : Cx) (g : Env) (pn : List (Addr × Obj)) (σ : L2.St) (E : XK) : Value → Shared → Prop := fun e s' =>
  wpAny (model X.prog X.w) (X.A.in1.deeper g) (leaving g e) (fun _ s'' => XE X (fun cls d σ' H' => σ' = σ ∧ E cls d H') e s'' ∧ NotStop (model X.prog X.w) e s''.heap ∧ ∀ p ∈ pn, s''.heap.get? p.1 = some p.2) (fun _ _ => False) s'
theorem gX_owns {E : XK} : PassesOwn (model X.prog X.w) (gX X N g pn o (gxe X g pn σ E)).A (gX X N g pn o (gxe X g pn σ E)).env (gX X N g pn o (gxe X g pn σ E)).xe :=
  PassesOwn.leaving (Q₁ := fun e s'' => XE X (fun cls d σ' H' => σ' = σ ∧ E cls d H') e s'' ∧ NotStop (model X.prog X.w) e s''.heap ∧ ∀ p ∈ pn, s''.heap.get? p.1 = some p.2) (E₁ := fun _ _ => False)
theorem gX_takes {E : XK} (D : Drv X) (G : Gfr X g) (I : Inv X pins σ H s) (ho : s.heap.get? X.env.locals = some o) (hX : ∀ p ∈ X.pn, p ∈ pn) (hE : NoStop X.K E) : Takes (gX X N g pn o (gxe X g pn σ E)) (fun cls d _ H' => E cls d H') := by
  intro u s' x
  obtain ⟨a, B, sI, gp, σ', H', cls, d, rfl, J, nb, up, sky, na, os, ag, w⟩ := x
  have hfr : (X.A.in1.deeper g).frames = some (g :: X.stack) := J.ok.frames
  have nbg : ∀ b ob, sI.heap.get? b = some ob → b ∉ frs (g :: X.stack) → B.get? b = some ob := nb
  have fg : frs (g :: X.stack) = g.locals :: frs X.stack := by
    show List.filterMap (·.frame) (g :: X.stack) = _
    rw [List.filterMap_cons, G.fr]
    rfl
  have hokB : HOk X.prog X.w H' B := J.inGround nb
  have pL := push_L D ho
  have LS : X.env.locals ∈ frs X.stack := by rw [frs_drv D]; exact List.mem_cons_self ..
  have nst : ∀ {b ob}, X.s_0.heap.get? b = some ob → b ∉ X.fs → b ∉ frs X.stack := fun {b ob} e hb z => by
    rw [frs_drv D] at z
    rcases List.mem_cons.mp z with z | z
    · exact old_ne D e z
    · exact hb z
  have ngl : ∀ {b ob}, X.s_0.heap.get? b = some ob → b ≠ g.locals := fun {b ob} e z => by
    have := Heap.lt_size e
    rw [D.sz, z] at this
    exact absurd (Nat.lt_trans this G.lt) (Nat.lt_irrefl _)
  have none_ : ∀ {b ob}, X.s_0.heap.get? b = some ob → X.H_0 b = none → H0g X b = none := fun e n => (H0g_ne (old_ne D e)).trans n
  have ne0 : ∀ {b : Addr} {u : HO}, X.H_0 b = some u → (X.H_0 b = some u → H b ≠ none) → b ≠ X.env.locals := fun {b u} e k z => k e (by rw [z]; exact I.free)
  have notX : ∀ b, b ∉ (gX X N g pn o (gxe X g pn σ E)).ex := fun b => by show ¬ b ∈ []; simp
  have keepB : ∀ b ob, X.s_0.heap.get? b = some ob → X.H_0 b = none → b ∉ X.fs → B.get? b = some ob := fun b ob e n hb =>
    nbg b ob (J.base.keep b ob (Heap.get?_push_of_some _ e) (none_ e n) (nst e hb) (notX b)) (by
      rw [fg]
      intro z
      rcases List.mem_cons.mp z with z | z
      · exact ngl e z
      · exact nst e hb z)
  have thereB : ∀ b ob, X.s_0.heap.get? b = some ob → b ∉ X.fs → ∃ o', B.get? b = some o' := fun b ob e hb => by
    obtain ⟨o', q⟩ := J.base.there b ob (Heap.get?_push_of_some _ e) (notX b)
    refine ⟨o', nbg b o' q ?_⟩
    rw [fg]
    intro z
    rcases List.mem_cons.mp z with z | z
    · exact ngl e z
    · exact nst e hb z
  have pinB : ∀ p ∈ pn, B.get? p.1 = some p.2 := fun p hp => by
    obtain ⟨h1, _, h3, h4, _⟩ := J.pin p (List.mem_append_left _ hp)
    refine nbg p.1 p.2 h1 ?_
    rw [fg]
    intro z
    rcases List.mem_cons.mp z with z | z
    · exact h3 z
    · exact h4 z
  have frS : ∀ b ∈ frs X.stack, ∀ ob, (X.s_0.heap.push o).get? b = some ob → H0g X b = none → ∃ sl, sI.heap.get? b = some { ob with slots := sl } := fun b hb ob e n => J.base.slot b ob e n hb (notX b)
  have fin : ∀ h', HandSPX.FlyingZ B X.stack a (Zc cls d) h' → s'.heap.UpToSlots h' → XE X (fun cls d σ' H' => σ' = σ ∧ E cls d H') (.ref a) { s' with heap := h' } ∧ NotStop (model X.prog X.w) (.ref a) h' ∧ ∀ p ∈ pn, ({ s' with heap := h' } : Shared).heap.get? p.1 = some p.2 := fun h' fl up' => by
    have st : B.StaysIn h' := fl.1
    have kin : X.K.In h' := I.ok.mod.kin.keeps fun b ob e => st b ob (keepB b ob (I.ok.bs b ob e).1 (I.ok.bs b ob e).2 (I.ok.nofr e))
    have ns : NotStop (model X.prog X.w) (.ref a) h' := by
      obtain ⟨oe, vs, he, hz, hd⟩ := fl.there
      have L := PySem.W.looks_subIn (M := model X.prog X.w) kin (hE cls d H' w)
      intro A Q E' s2 hs2 hq
      simp only [isInstance]
      refine wpAny_bind (wpAny_typeOf_ref (o := oe) (by rw [hs2]; exact he) ?_)
      rw [hz.1]
      exact L A Q E' s2 (fun b ob z => by rw [hs2]; exact z) hq
    refine ⟨?_, ns, fun p hp => st p.1 p.2 (pinB p hp)⟩
    obtain ⟨G2, g1, g2⟩ := restrict h' fun b => (B.get? b).isSome || decide (b ∈ frs X.stack)
    have gB : ∀ b ob, B.get? b = some ob → G2.get? b = some ob := fun b ob e => by
      rw [g1 b (by simp [e])]
      exact st b ob e
    have gF : ∀ b, b ∈ frs X.stack → G2.get? b = h'.get? b := fun b hb => g1 b (by simp [hb])
    have og : ∀ b ob, G2.get? b = some ob → h'.get? b = some ob ∧ ((B.get? b).isSome = true ∨ b ∈ frs X.stack) := fun b ob e => by
      cases q : ((B.get? b).isSome || decide (b ∈ frs X.stack)) with
      | false => rw [g2 b q] at e; cases e
      | true =>
        rw [g1 b q] at e
        exact ⟨e, by simpa [Bool.or_eq_true] using q⟩
    have frG : ∀ b ∈ frs X.stack, ∀ ob, (∀ vs, ob.data ≠ .fields vs) → (X.s_0.heap.push o).get? b = some ob → H0g X b = none → ∃ sl, G2.get? b = some { ob with slots := sl } := fun b hb ob hd e n => by
      obtain ⟨sl1, e1⟩ := frS b hb ob e n
      obtain ⟨sl2, e2⟩ := up b _ e1 hd
      obtain ⟨sl3, e3⟩ := up' b _ e2 hd
      exact ⟨sl3, by rw [gF b hb]; exact e3⟩
    obtain ⟨m2, ⟨o', es', ep', ho', hd', r'⟩, hl⟩ := I.loc
    rw [ho] at ho'
    cases ho'
    obtain ⟨slL, hL⟩ := frG X.env.locals LS o (fun vs z => by rw [hd'] at z; cases z) pL H0g_L
    refine ⟨a, B, { s' with heap := G2 }, [], σ, H', cls, d, rfl, ?_, fun b ob e hb => ?_, Heap.UpToSlots.of_keeps fun b ob e => (og b ob e).1, .inr (.inl fl), na, rfl, ag, rfl, w⟩
    · refine ⟨I.ok, os.trans J.os, ag, ⟨fun b ob e n hb _ => gB b ob (keepB b ob e n hb), fun b ob e n hb _ => ?_, fun b ob e n _ => J.base.free b ob (Heap.get?_push_of_some _ e) (none_ e n) (notX b), fun b ob e _ => ?_, fun b xs e => ?_, fun b ob u e => ?_, fun b ps e => ?_⟩, ⟨m2, ⟨_, es', ep', hL, hd', r'⟩, fun i x v a1 a2 a3 => ?_⟩, fun x c h => (D.cl x c h).elim, J.base.free X.env.locals o pL H0g_L (notX _), fun x c h => (D.cl x c h).elim, fun p hp => ?_, hokB.kept gB, I.len⟩
      · obtain ⟨_, o₀, e₀, hnf⟩ := I.ok.funs.mem hb
        rw [e] at e₀
        cases e₀
        exact frG b (by rw [frs_drv D]; exact List.mem_cons_of_mem _ hb) ob hnf (Heap.get?_push_of_some _ e) (none_ e n)
      · by_cases hb : b ∈ X.fs
        · obtain ⟨_, o₀, e₀, hnf⟩ := I.ok.funs.mem hb
          rw [e] at e₀
          cases e₀
          obtain ⟨sl, q⟩ := frG b (by rw [frs_drv D]; exact List.mem_cons_of_mem _ hb) ob hnf (Heap.get?_push_of_some _ e) (none_ e (I.ok.frf b hb))
          exact ⟨_, q⟩
        · obtain ⟨o2, q⟩ := thereB b ob e hb
          exact ⟨o2, gB b o2 q⟩
      · exact J.base.tups b xs ((H0g_ne (ne0 e fun e => by rw [I.base.tups b xs e]; simp)).trans e)
      · exact J.base.frzs b ob u ((H0g_ne (ne0 e fun e => by rw [I.base.frzs b ob u e]; simp)).trans e)
      · exact J.base.tbls b ps ((H0g_ne (ne0 e fun e => by obtain ⟨mo, q⟩ := I.base.tbls b ps e; rw [q]; simp)).trans e)
      · obtain ⟨u, r, l⟩ := hl i x v a1 a2 a3
        rcases l with l | ⟨_, c, e, _⟩
        · exact ⟨u, r, .inl l⟩
        · exact (D.cl x c e).elim
      · have hp' : p ∈ X.pn := by rwa [List.append_nil] at hp
        obtain ⟨q1, q2, q3, q4, q5⟩ := J.pin p (List.mem_append_left _ (hX p hp'))
        obtain ⟨_, _, i3, i4, i5⟩ := I.pin p (List.mem_append_left _ hp')
        exact ⟨gB _ _ (pinB p (hX p hp')), q2, i3, i4, i5⟩
    · obtain ⟨e', h⟩ := og b ob e
      rcases h with h | h
      · obtain ⟨o2, q⟩ := Option.isSome_iff_exists.mp h
        have z := st b o2 q
        rw [e'] at z
        cases z
        exact q
      · exact absurd h hb
  have sky' : Sky B (g :: X.stack) a (Zc cls d) g.locals s'.heap := sky
  rcases sky' with ⟨hB, hn, hl, oe, vs, he, hz, hd, h1⟩ | fl | hd
  · exact HandSPX.leaving_firstZ Zc.steady hfr hl G.fr he hB hn hd h1 hz fin
  · exact HandSPX.leaves_onZ Zc.steady hfr G.fr fl fin
  · exact HandSPX.leaves_heldZ G.fr hd fin
end
end Tl
end

section
set_option Elab.async false
set_option linter.all false
set_option maxRecDepth 100000
set_option maxHeartbeats 4000000
/-! A generator that a for statement drives: the driver's loop. -/
namespace Tl
open PySem PySem.Spec PyProof.Rows L2 Evl GenW
theorem inv_gens {X : Cx} {pins : List (Addr × Obj)} {σ : L2.St} {H : Hp} {s : Shared} {G : Array GenState} (I : Inv X pins σ H s) (h : AllBare G) : Inv X pins σ H { s with gens := G } :=
  ⟨I.ok, I.os, h, I.base, I.loc, I.cell, I.free, I.freeC, I.pin, I.hok, I.len⟩
theorem xe_gens {X : Cx} {W : WX} {e : Value} {s : Shared} {G : Array GenState} (x : XE X W e s) (h : AllBare G) : XE X W e { s with gens := G } := by
  obtain ⟨a, B, sI, pins, σ, H, cls, d, e, I, nb, up, sky, na, os, ag, w⟩ := x
  exact ⟨a, B, sI, pins, σ, H, cls, d, e, I, nb, up, sky, na, os, h, w⟩
theorem xe_bare {X : Cx} {W : WX} {e : Value} {s : Shared} (x : XE X W e s) : AllBare s.gens := by
  obtain ⟨a, B, sI, pins, σ, H, cls, d, e, I, nb, up, sky, na, os, ag, w⟩ := x
  exact ag
/-- statements that let no exception out and leave the table of generators -/
def PSsG (X : Cx) (st : List Stmt) (t : TS) : Prop := ∀ (pins : List (Addr × Obj)) (s : Shared) (σ : L2.St) (H : Hp) (D : Ends), Inv X pins σ H s → t D σ H →
  wpAny (model X.prog X.w) X.A (execs st X.env) (fun f s' => SP X pins D f s' ∧ s'.gens = s.gens) (fun _ _ => False) s
def PGG (X : Cx) (tg : Expr) (t : TG) : Prop := ∀ (pins : List (Addr × Obj)) (s : Shared) (σ : L2.St) (H : Hp) (v : V) (u : Value) (Q : L2.St → Hp → Prop), Inv X pins σ H s → RelV v u → t v σ H Q →
  wpAny (model X.prog X.w) X.A (assign tg X.env u) (fun _ s' => (∃ σ' H', Inv X pins σ' H' s' ∧ Q σ' H') ∧ s'.gens = s.gens) (fun _ _ => False) s
section
variable {X : Cx} {pins pins0 : List (Addr × Obj)} {Wout : WX} {D : Ends} {a : Addr} {go : Obj} {gi : Nat} {gc : TG} {tbc : TS}
/-- an item is handed out -/
def YP (X : Cx) (pins0 : List (Addr × Obj)) (gc : TG) (tbc : TS) (D : Ends) : Protocol := fun n s₀ v s kap => ∃ (x : V) (σ : L2.St) (H : Hp) (P' : List (Addr × Obj)) (B : L2.St → Hp → Prop), RelV x v ∧ Inv X P' σ H s ∧ (∀ p ∈ pins0, p ∈ P') ∧
  gc x σ H (fun σ2 H2 => tbc { nx := B, ct := B, bk := fun _ _ => False, rt := fun _ _ => False } σ2 H2) ∧ ∀ s'' σ2 H2, Inv X P' σ2 H2 s'' → B σ2 H2 → kap (.send .none) s''
/-- its end -/
def RP (X : Cx) (pins0 : List (Addr × Obj)) (Wout : WX) (D : Ends) : GenEnd := fun n s₀ r s => ((r = .ok (.ret .none) ∨ r = .ok .next) ∧ ∃ σ H P', Inv X P' σ H s ∧ (∀ p ∈ pins0, p ∈ P') ∧ D.nx σ H) ∨
  ∃ e, r = .error e ∧ XE X Wout e s ∧ NotStop (model X.prog X.w) e s.heap ∧ ∀ p ∈ pins0, s.heap.get? p.1 = some p.2
theorem drive {tgc : Expr} {bodyc : List Stmt} (hh : X.A.handled = none) (hroom : X.A.depth < recursionLimit) (tk : Takes X Wout) (hp : PassesOwn (model X.prog X.w) X.A X.env X.xe) (hg : PGG X tgc gc) (hb : PSsG X bodyc tbc) (hgo : ∀ h : Heap, h.get? a = some go → h.IsGen a gi)
    (ha : (a, go) ∈ pins0) (hpi : ∀ p ∈ pins, p ∈ pins0) (hpg : ∀ p ∈ pins0, ∀ v, p.2.data ≠ .cell v) :
    ∀ (n : Nat) (s : Shared), (∃ gs, s.gens[gi]? = some gs ∧ gs.Goes (model X.prog X.w) X.A.in1 (RP X pins0 Wout D) (YP X pins0 gc tbc D) n (.send .none) (s.setGen gi .running)) → s.heap.get? a = some go → s.heap.NoLimit →
      codeAny (model X.prog X.w) X.A (.forLoop tgc (.ref a) bodyc [] X.env) (fun r s' => match r with | .ok f => SP X pins D f s' | .error e => cameBackBy (model X.prog X.w) X.A X.env X.xe e s') s := by
  intro n s h1 h2 h3
  refine codeAny_forLoop_any (fun n s => (∃ gs, s.gens[gi]? = some gs ∧ gs.Goes (model X.prog X.w) X.A.in1 (RP X pins0 Wout D) (YP X pins0 gc tbc D) n (.send .none) (s.setGen gi .running)) ∧ s.heap.get? a = some go ∧ s.heap.NoLimit) ?_ n ⟨h1, h2, h3⟩
  clear h1 h2 h3
  rintro n s ⟨⟨gs, hgs, hgoes⟩, hga, hl⟩
  have hgl : gi < s.gens.size := (Array.getElem?_eq_some_iff.mp hgs).1
  refine wpAny_gsz (n := gi + 1) hgl (next_genG (F := fun n s₀ s₁ => ∃ σ H P', Inv X P' σ H s₁ ∧ (∀ p ∈ pins0, p ∈ P') ∧ D.nx σ H) (Er := fun e s₁ => XE X Wout e s₁ ∧ NotStop (model X.prog X.w) e s₁.heap ∧ ∀ p ∈ pins0, s₁.heap.get? p.1 = some p.2) (Y := YP X pins0 gc tbc D) hh hl hroom (hgo _ hga) hgs hgoes (fun v s₁ gs' hbare hv => ?_) (fun s₁ hpp h' hk => ?_) fun e s₁ he => ?_)
  · intro hsz
    obtain ⟨x, σ, H, P', B, rx, I, hP, hgc, hk⟩ := hv
    have hsz1 : gi < s₁.gens.size := by
      have q : (s₁.setGen gi gs').gens.size = s₁.gens.size := setGen_size _ _ _
      have hsz' : gi + 1 ≤ (s₁.setGen gi gs').gens.size := hsz
      omega
    have I1 : Inv X P' σ H (s₁.setGen gi gs') := inv_gens I (allBare_setGen I.bare hbare)
    have hat : (s₁.setGen gi gs').gens[gi]? = some gs' := setGen_at hsz1
    obtain ⟨ag, _⟩ := I1.pin _ (List.mem_append_right _ (hP _ ha))
    have ag' : (s₁.setGen gi gs').heap.get? a = some go := ag
    obtain ⟨og, nm, qn, ho, hc, hd, _⟩ := hgo _ ag'
    refine go_of ho hc hd (by decide) ?_
    refine wpAny_mono (hg P' _ σ H x v _ I1 rx hgc) (fun _ s2 h2 => ?_) fun _ _ z => z.elim
    obtain ⟨⟨σ2, H2, I2, q2⟩, e2⟩ := h2
    refine wpAny_mono (hb P' _ σ2 H2 _ I2 q2) (fun f s3 h3 => ?_) fun _ _ z => z.elim
    obtain ⟨h3, e3⟩ := h3
    have again : ∀ {σ3 H3}, Inv X P' σ3 H3 s3 → B σ3 H3 → ∃ m, m < n ∧ (∃ gs, s3.gens[gi]? = some gs ∧ gs.Goes (model X.prog X.w) X.A.in1 (RP X pins0 Wout D) (YP X pins0 gc tbc D) m (.send .none) (s3.setGen gi .running)) ∧ s3.heap.get? a = some go ∧ s3.heap.NoLimit := fun {σ3 H3} I3 b3 => by
      have z := hk (s3.setGen gi .running) σ3 H3 (inv_gens I3 (allBare_setGen I3.bare rfl)) b3
      obtain ⟨ag3, _⟩ := I3.pin _ (List.mem_append_right _ (hP _ ha))
      cases n with
      | zero => exact z.elim
      | succ m => exact ⟨m, Nat.lt_succ_self m, ⟨gs', by rw [e3, e2]; exact hat, z⟩, ag3, I3.nolimit⟩
    cases f with
    | next => obtain ⟨σ3, H3, I3, q3⟩ := h3; exact again I3 q3
    | cont => obtain ⟨σ3, H3, I3, q3⟩ := h3; exact again I3 q3
    | brk => obtain ⟨σ3, H3, I3, q3⟩ := h3; exact q3.elim
    | ret u => obtain ⟨x3, σ3, H3, I3, _, q3⟩ := h3; exact q3.elim
  · intro _
    obtain ⟨σ, H, P', I, hP, q⟩ := hpp
    refine wpAny_execs_nil ⟨σ, H, ?_, q⟩
    have I2 : Inv X P' σ H { s₁.setGen gi .finished with heap := h' } := (inv_gens (G := (s₁.setGen gi .finished).gens) I (allBare_setGen I.bare rfl)).kept (t' := s₁.toks) hk
    exact I2.pins_of fun p hp => I2.pin p (List.mem_append_right _ (hP p (hpi p hp)))
  · obtain ⟨x, ns, hq⟩ := he
    exact ⟨hgo _ (hq _ ha), ns, fun _ => hp _ _ (tk _ _ (xe_gens x (allBare_setGen (xe_bare x) rfl)))⟩

/-- what the generator may let out at a turn -/
def ESg (X : Cx) (Wout : WX) (σ : L2.St) : XK := fun cls d H => Wout cls d σ H ∧ PySem.W.subIn X.K cls (.type "StopIteration") = some false
theorem noStop_ES {σ : L2.St} : NoStop X.K (ESg X Wout σ) := fun _ _ _ h => h.2
/-- behind the generator's opening: its loop -/
def GenZ (wi : TI) (gt : TG) (tb : XK → TS) (te : TE) (ES : L2.St → XK) (gc : TG) (tbc : TS) (D : Ends) (n : Nat) (σ : L2.St) : L2.St → Hp → Prop := fun σg H2 => wi σg H2 fun J H3 => ∃ Z : Nat → Nat → L2.St → L2.St → Hp → Prop, (∃ m, m ≤ n ∧ Z 0 m σ σg H3) ∧ ∀ i m σc σg H, Z i m σc σg H →
  (J.stop i H ∧ D.nx σc H) ∨ (J.go i H ∧ 0 < m ∧ ∀ x H', J.yld i H x H' → gt x σg H' fun σg2 H2 => tb (ES σc) { nx := fun σg3 H3 => te σg3 H3 fun y H4 => gc y σc H4 fun σc2 H5 => tbc { nx := fun σc3 H6 => ∃ m', m' < m ∧ Z (i + 1) m' σc3 σg3 H6, ct := fun σc3 H6 => ∃ m', m' < m ∧ Z (i + 1) m' σc3 σg3 H6, bk := fun _ _ => False, rt := fun _ _ => False } σc2 H5, rt := fun _ _ => False } σg2 H2)
theorem gen_seg {N : List Str} {g : Env} {p1 b1 : Stmt} {tg iter e : Expr} {yp ep fpos : Pos} {tp tb : XK → TS} {wi : TI} {gt : TG} {te : TE} {og : Obj} {σ σg : L2.St} {H : Hp} {s : Shared} {P0 : List (Addr × Obj)} {n k0 : Nat}
    (Dv : Drv X) (G : Gfr X g) (hX : ∀ p ∈ X.pn, p ∈ pins0) (hco : g.scope.isCoroutine = false) (hint : interactive g = false)
    (hbody : ∀ o σ, Room k0 (gX X N g pins0 o (gxe X g pins0 σ (ESg X Wout σ))).A → Takes (gX X N g pins0 o (gxe X g pins0 σ (ESg X Wout σ))) (fun cls d _ H' => ESg X Wout σ cls d H') →
      PS (gX X N g pins0 o (gxe X g pins0 σ (ESg X Wout σ))) p1 (tp (ESg X Wout σ)) ∧ PI (gX X N g pins0 o (gxe X g pins0 σ (ESg X Wout σ))) tg iter wi ∧ PG (gX X N g pins0 o (gxe X g pins0 σ (ESg X Wout σ))) tg gt ∧ PS (gX X N g pins0 o (gxe X g pins0 σ (ESg X Wout σ))) b1 (tb (ESg X Wout σ)) ∧ PE (gX X N g pins0 o (gxe X g pins0 σ (ESg X Wout σ))) e te)
    (hr0 : Room k0 (X.A.in1.deeper g)) (hs : ∀ x, foldedSetIterable iter g x = pure x)
    (I : Inv X P0 σ H s) (S : Slp N g og σg) (hg : (g.locals, og) ∈ P0) (hp0 : ∀ p ∈ pins0, p ∈ P0 ∧ p.1 ≠ g.locals)
    (ht : tp (ESg X Wout σ) { nx := GenZ wi gt tb te (ESg X Wout) gc tbc D n σ, rt := fun _ _ => False } σg H) :
    Seg (model X.prog X.w) X.A.in1 (RP X pins0 Wout D) (YP X pins0 gc tbc D) n s (.func [p1, .For tg iter [b1, .Expr (.Yield (some e) yp) ep] [] fpos] g) ((model X.prog X.w).den (.func [p1, .For tg iter [b1, .Expr (.Yield (some e) yp) ep] [] fpos] g)) [] s := by
  have hoL : ∀ {P1 : List (Addr × Obj)} {σ1 : L2.St} {H1 : Hp} {s1 : Shared}, Inv X P1 σ1 H1 s1 → ∃ o, s1.heap.get? X.env.locals = some o := fun I => by
    obtain ⟨_, ⟨o, _, _, ho, _⟩, _⟩ := I.loc
    exact ⟨o, ho⟩
  obtain ⟨o, ho⟩ := hoL I
  have wake : ∀ {P1 gp : List (Addr × Obj)} {σ1 σg1 : L2.St} {H1 : Hp} {s1 : Shared} {o1 og1 : Obj} {xe : Value → Shared → Prop}, Inv X P1 σ1 H1 s1 → s1.heap.get? X.env.locals = some o1 → Slp N g og1 σg1 → (g.locals, og1) ∈ P1 → (∀ p ∈ pins0 ++ gp, p ∈ P1 ∧ p.1 ≠ g.locals) → Inv (gX X N g pins0 o1 xe) gp σg1 H1 s1 :=
    fun I1 ho1 S1 hg1 hp1 => gX_wake Dv G I1 ho1 S1 hg1 fun p hp => ⟨List.mem_append_right _ (hp1 p hp).1, (hp1 p hp).2⟩
  have J0 : Inv (gX X N g pins0 o (gxe X g pins0 σ (ESg X Wout σ))) [] σg H s := wake I ho S hg fun p hp => hp0 p (by rwa [List.append_nil] at hp)
  -- an exception leaves the code
  have top : ∀ (σ1 : L2.St) (n : Nat) (s₀ : Shared) (x : Value) (s' : Shared), gxe X g pins0 σ1 (ESg X Wout σ1) x s' → Seg (model X.prog X.w) X.A.in1 (RP X pins0 Wout D) (YP X pins0 gc tbc D) n s₀ (.func [p1, .For tg iter [b1, .Expr (.Yield (some e) yp) ep] [] fpos] g) ((leaving g x).wrap (fun _ => .raise x) .raise id id) [] s' := fun σ1 n s₀ x s' hx => by
    refine seg_wrap ?_
    rw [over_func]
    refine wpAny_mono (show wpAny (model X.prog X.w) (X.A.in1.deeper g) (leaving g x) _ _ s' from hx) (fun _ s'' q => ?_) fun _ _ z => z.elim
    obtain ⟨q1, q2, q3⟩ := q
    refine seg_end (.error x) (.inr ⟨x, rfl, ?_, q2, q3⟩)
    obtain ⟨a, B, sI, pins, σ', H', cls, d, e, I, nb, up, sky, na, os, ag, w⟩ := q1
    exact ⟨a, B, sI, pins, σ', H', cls, d, e, I, nb, up, sky, na, os, ag, w.1 ▸ w.2.1⟩
  obtain ⟨h1, h2, _, _, _⟩ := hbody o σ hr0 (gX_takes Dv G I ho hX noStop_ES)
  refine seg_func ?_
  refine seg_execs_cons ?_
  refine seg_wrap ?_
  rw [over_func]
  refine wpAny_mono (h1.run [] s σg H _ J0 ht) (fun f s1 hf => ?_) fun x s' hx => top σ _ _ x s' hx
  cases f with
  | brk => obtain ⟨_, _, _, q⟩ := hf; exact q.elim
  | cont => obtain ⟨_, _, _, q⟩ := hf; exact q.elim
  | ret u => obtain ⟨_, _, _, _, _, q⟩ := hf; exact q.elim
  | next =>
  obtain ⟨σ1, H1, J1, q1⟩ := hf
  refine seg_execs_cons ?_
  refine seg_For hs ?_
  rw [over_func]
  refine wpAny_mono (h2.run [] s1 σ1 H1 _ J1 q1) (fun v s2 hv => ?_) fun x s' hx => top σ _ _ x s' hx
  refine wpAny_mono hv (fun itv s3 hit => ?_) fun x s' hx => top σ _ _ x s' hx
  intro p
  obtain ⟨it, fp, tn, J, H3, rfl, J3, T, st3, f3, Z, ⟨m0, hm0, z0⟩, turn⟩ := hit
  have stat : ∀ b ∈ fp, b ≠ g.locals ∧ b ∉ frs X.stack ∧ X.s_0.heap.objs.size + 1 ≤ b ∧ ∀ p ∈ pins0, p.1 ≠ b := fun b hb => by
    obtain ⟨_, a1, a2, a3, _, a5⟩ := f3 b hb
    refine ⟨a1, a2, ?_, fun p hp => a5 p (List.mem_append_left _ hp)⟩
    rcases a3 with a3 | a3
    · exact absurd a3 (by show ¬ b ∈ []; simp)
    · have a3' : (X.s_0.heap.push o).objs.size ≤ b := a3
      rw [Heap.size_push] at a3'
      exact a3'
  have fpok : ∀ (o : Obj) (xe : Value → Shared → Prop) (H : Hp), (∀ b ∈ fp, H b = none) → ∀ b ∈ fp, FpOk (gX X N g pins0 o xe) [] H b := fun o xe H hn b hb => by
    obtain ⟨a1, a2, a3, a4⟩ := stat b hb
    refine ⟨hn b hb, a1, a2, .inr ?_, fun x c h => (G.cl x c h).elim, fun p hp => a4 p (by rw [List.append_nil] at hp; exact hp)⟩
    show (X.s_0.heap.push o).objs.size ≤ b
    rw [Heap.size_push]
    exact a3
  have fb : ∀ b ∈ fp, H3 b = none := fun b hb => (f3 b hb).1
  refine show _ from ?_
  have over : ∀ (k : Result → Sem PySem.Fin) (l : List Value) (q : Pos), X.A.in1.over (.forLoop tg (.ref it) [b1, .Expr (.Yield (some e) yp) ep] [] g) (.ret k none false l (.func [p1, .For tg iter [b1, .Expr (.Yield (some e) yp) ep] [] fpos] g) q [] :: []) = X.A.in1.deeper g := fun k l q => (over_loop rfl rfl).trans over_func
  generalize hK : backK g (fun f => match f with | .next => (execs [] g).wrap (fun f => .pure (.done (.ret (match f with | .ret v => v | _ => .none)))) (fun e => (leaving g e).wrap (fun _ => .raise e) .raise id id) id id | f => (fun f => .pure (.done (.ret (match f with | .ret v => v | _ => .none))) : Flow → Sem PySem.Fin) f) (fun e => (leaving g e).wrap (fun _ => .raise e) .raise id id) id id = kk
  have cb : ∀ (σ1 : L2.St) (n : Nat) (s₀ : Shared) (x : Value) (s' : Shared), cameBackBy (model X.prog X.w) (X.A.in1.deeper g) g (gxe X g pins0 σ1 (ESg X Wout σ1)) x s' → Seg (model X.prog X.w) X.A.in1 (RP X pins0 Wout D) (YP X pins0 gc tbc D) n s₀ (.func [p1, .For tg iter [b1, .Expr (.Yield (some e) yp) ep] [] fpos] g) (kk (.error x)) [] s' := fun σ1 n s₀ x s' h => by
    subst hK
    show Seg _ _ _ _ _ _ _ (((cameBack g x).bind fun _ => (Sem.raise x : Sem Flow)).wrap _ _ _ _) _ _
    rw [Sem.bind_eq_wrap, Sem.wrap_wrap]
    refine seg_wrap ?_
    rw [over_func]
    exact wpAny_mono h (fun _ s' hx => top σ1 _ _ x s' hx) fun x s' hx => top σ1 _ _ x s' hx
  have exc : ∀ (o : Obj) (σ1 : L2.St) (n : Nat) (s₀ : Shared) (x : Value) (s' : Shared), gxe X g pins0 σ1 (ESg X Wout σ1) x s' → Seg (model X.prog X.w) X.A.in1 (RP X pins0 Wout D) (YP X pins0 gc tbc D) n s₀ (.forLoop tg (.ref it) [b1, .Expr (.Yield (some e) yp) ep] [] g) (notedJ g x) (.ret kk none false [] (.func [p1, .For tg iter [b1, .Expr (.Yield (some e) yp) ep] [] fpos] g) p [] :: []) s' := fun o σ1 n s₀ x s' hx => by
    unfold notedJ
    refine seg_wrap ?_
    rw [over]
    refine wpAny_bind (wpAny_mono (gX_owns (X := X) (N := N) (g := g) (pn := pins0) (o := o) (σ := σ1) (E := ESg X Wout σ1) x s' hx) (fun _ s'' hcb => wpAny_theTreesLotGoes ?_) fun y s'' hcb => ?_)
    · exact seg_leaf (.error x) (cb σ1 _ _ x s'' hcb)
    · exact seg_leaf (.error y) (cb σ1 _ _ y s'' hcb)
  have loop : ∀ (n m i : Nat) (s₀ s : Shared) (σc σ1 : L2.St) (H1 : Hp) (o : Obj) (Pr : List (Addr × Obj)) (Hr : Hp) (sr : Shared), m ≤ n → Z i m σc σ1 H1 → Inv X Pr σc Hr sr → sr.heap.get? X.env.locals = some o → Inv (gX X N g pins0 o (gxe X g pins0 σc (ESg X Wout σc))) [] σ1 H1 s → tn i s.heap → (∀ b ∈ fp, H1 b = none) →
      Seg (model X.prog X.w) X.A.in1 (RP X pins0 Wout D) (YP X pins0 gc tbc D) n s₀ (.forLoop tg (.ref it) [b1, .Expr (.Yield (some e) yp) ep] [] g) ((model X.prog X.w).den (.forLoop tg (.ref it) [b1, .Expr (.Yield (some e) yp) ep] [] g)) (.ret kk none false [] (.func [p1, .For tg iter [b1, .Expr (.Yield (some e) yp) ep] [] fpos] g) p [] :: []) s := by
    intro n
    induction n with
    | zero =>
      intro m i s₀ s σc σ1 H1 o Pr Hr sr hm z Ir hor J1 st fr
      obtain rfl : m = 0 := by omega
      obtain ⟨g1, g2, g3, g4, g5⟩ := hbody o σc hr0 (gX_takes Dv G Ir hor hX noStop_ES)
      rcases turn i 0 σc σ1 H1 z with ⟨stop, qn⟩ | ⟨_, h0, _⟩
      · refine seg_forLoop ?_
        rw [over]
        refine wpAny_mono (T.done (gX X N g pins0 o (gxe X g pins0 σc (ESg X Wout σc))) rfl rfl rfl rfl i [] s σ1 H1 (gxe X g pins0 σc (ESg X Wout σc)) J1 (fpok _ _ _ fr) st stop) (fun r s4 h4 => ?_) fun x s' hx => exc o σc _ _ x s' hx
        obtain ⟨rfl, J4⟩ := h4
        refine seg_leaf (.ok .next) ?_
        subst hK
        refine seg_end (.ok (.ret .none)) (.inl ⟨.inl rfl, ?_⟩)
        obtain ⟨og4, _, _, _, hI⟩ := gX_sleep Dv G Ir hor J4 hX
        exact ⟨σc, H1, pins0, hI pins0 fun p hp => .inl (List.mem_append_left _ hp), fun p hp => hp, qn⟩
      · omega
    | succ n ih =>
      intro m i s₀ s σc σ1 H1 o Pr Hr sr hm z Ir hor J1 st fr
      obtain ⟨g1, g2, g3, g4, g5⟩ := hbody o σc hr0 (gX_takes Dv G Ir hor hX noStop_ES)
      rcases turn i m σc σ1 H1 z with ⟨stop, qn⟩ | ⟨goes, h0, step⟩
      · refine seg_forLoop ?_
        rw [over]
        refine wpAny_mono (T.done (gX X N g pins0 o (gxe X g pins0 σc (ESg X Wout σc))) rfl rfl rfl rfl i [] s σ1 H1 (gxe X g pins0 σc (ESg X Wout σc)) J1 (fpok _ _ _ fr) st stop) (fun r s4 h4 => ?_) fun x s' hx => exc o σc _ _ x s' hx
        obtain ⟨rfl, J4⟩ := h4
        refine seg_leaf (.ok .next) ?_
        subst hK
        refine seg_end (.ok (.ret .none)) (.inl ⟨.inl rfl, ?_⟩)
        obtain ⟨og4, _, _, _, hI⟩ := gX_sleep Dv G Ir hor J4 hX
        exact ⟨σc, H1, pins0, hI pins0 fun p hp => .inl (List.mem_append_left _ hp), fun p hp => hp, qn⟩
      · refine seg_forLoop ?_
        rw [over]
        refine wpAny_mono (T.item (gX X N g pins0 o (gxe X g pins0 σc (ESg X Wout σc))) rfl rfl rfl rfl i [] s σ1 H1 (gxe X g pins0 σc (ESg X Wout σc)) J1 (fpok _ _ _ fr) st goes) (fun r s4 h4 => ?_) fun x s' hx => exc o σc _ _ x s' hx
        obtain ⟨u, rfl, h4⟩ := h4
        refine wpAny_mono h4 (fun _ s5 h5 => ?_) fun x s' hx => exc o σc _ _ x s' hx
        obtain ⟨x, H5, J5, r5, y5, st5, fr5⟩ := h5
        have J5' := J5.pinned (fpok _ _ _ fr5) (T.obj _ _ st5)
        refine wpAny_mono (g3.run _ s5 σ1 H5 x u _ J5' r5 (step x H5 y5)) (fun _ s6 h6 => ?_) fun x s' hx => exc o σc _ _ x s' hx
        obtain ⟨σ6, H6, J6, q6⟩ := h6
        refine seg_execs_cons (seg_wrap ?_)
        rw [over]
        refine wpAny_mono (g4.run _ s6 σ6 H6 _ J6 q6) (fun f s7 h7 => ?_) fun x s' hx => exc o σc _ _ x s' hx
        cases f with
        | brk => obtain ⟨_, _, _, q⟩ := h7; exact q.elim
        | cont => obtain ⟨_, _, _, q⟩ := h7; exact q.elim
        | ret u => obtain ⟨_, _, _, _, _, q⟩ := h7; exact q.elim
        | next =>
        obtain ⟨σ7, H7, J7, q7⟩ := h7
        refine seg_execs_cons (seg_Expr_Yield rfl rfl rfl ?_ hco hint)
        rw [over]
        refine wpAny_mono (g5.run _ s7 σ7 H7 _ J7 q7) (fun v s8 h8 => ?_) fun x s' hx => exc o σc _ _ x s' hx
        obtain ⟨y, H8, J8, ry, q8⟩ := h8
        intro kap hkap
        obtain ⟨og8, S8, eg8, _, hI⟩ := gX_sleep Dv G Ir hor J8 hX
        refine ⟨y, σc, H8, (g.locals, og8) :: (pins0 ++ pinsAt fp s5.heap), _, ry, hI _ (fun p hp => ?_), fun p hp => List.mem_cons_of_mem _ (List.mem_append_left _ hp), q8, fun s'' σ2 H2 I2 b2 => ?_⟩
        · rcases List.mem_cons.mp hp with q | q
          · exact .inr q
          · rw [List.nil_append]
            exact .inl q
        · obtain ⟨m', hm', z'⟩ := b2
          obtain ⟨o2, ho2⟩ := hoL I2
          refine hkap .none s'' ?_
          refine seg_execs_nil ?_
          have J9 : Inv (gX X N g pins0 o2 (gxe X g pins0 σ2 (ESg X Wout σ2))) (pinsAt fp s5.heap) σ7 H2 s'' := wake I2 ho2 S8 (List.mem_cons_self ..) fun p hp => ⟨List.mem_cons_of_mem _ hp, by
            rcases List.mem_append.mp hp with q | q
            · exact (hp0 p q).2
            · exact (stat p.1 (of_pinsAt q).1).1⟩
          refine seg_again rfl (ih m' (i + 1) _ s'' σ2 σ7 H2 o2 _ H2 s'' (by omega) z' I2 ho2 (J9.pins_of fun p hp => by cases hp) (T.keep _ _ _ st5 fun b hb ob e => (J9.pin (b, ob) (List.mem_append_right _ (mem_pinsAt hb e))).1) fun b hb => ?_)
          obtain ⟨ob, e, _⟩ := T.obj _ _ st5 b hb
          exact (J9.pin (b, ob) (List.mem_append_right _ (mem_pinsAt hb e))).2.1
  exact loop n m0 0 _ s3 σ σ1 H3 o P0 H s hm0 z0 I ho J3 st3 fb
end
end Tl
end

section
set_option Elab.async false
set_option linter.all false
set_option maxRecDepth 100000
set_option maxHeartbeats 4000000
/-! A generator that a for statement drives: its making, the rule. -/
namespace Tl
open PySem PySem.Spec PyProof.Rows L2 Evl GenW
section
variable {X : Cx} {pins : List (Addr × Obj)} {σ : L2.St} {H : Hp} {s : Shared} {f : Addr} {name qual : Str} {params : Arguments} {body : List Stmt} {scope : Scope} {dV kV doc pm cdv ct oc : Value} {an od : Option Addr} {osl : Array (Option Value)} {N ps : List Str}
/-- a generator has been made -/
def GMd (X : Cx) (pins : List (Addr × Obj)) (σ : L2.St) (H : Hp) (N : List Str) (s : Shared) (g : Env) (body : List Stmt) (σg : L2.St) (u : Value) (s' : Shared) : Prop :=
  ∃ (a : Addr) (go : Obj) (gi : Nat) (og : Obj), u = .ref a ∧ Gfr X g ∧ (∀ h : Heap, h.get? a = some go → h.IsGen a gi) ∧ s'.heap.get? a = some go ∧ s'.gens[gi]? = some (.fresh (.func body g)) ∧ Slp N g og σg ∧ Inv X (pins ++ [(a, go), (g.locals, og)]) σ H s' ∧ (∀ p ∈ X.pn ++ pins, p.1 ≠ g.locals) ∧ a ≠ g.locals ∧ ∀ v, go.data ≠ .cell v
theorem cells_none : ∀ (n : Nat) (l : List (Str × NameKind)) (acc : List (Str × Addr)), (∀ y ∈ l, y.2 ≠ .cell) → cellsFrom n l acc = acc
  | n, [], acc, _ => rfl
  | n, (x, k) :: l, acc, h => by
    have hk : k ≠ .cell := h (x, k) (List.mem_cons_self ..)
    have ih := cells_none n l acc fun y hy => h y (List.mem_cons_of_mem _ hy)
    unfold cellsFrom
    cases k <;> first | exact ih | exact absurd rfl hk
theorem gen_made {E1 : Value → Shared → Prop} {k : Nat} {vs : List V} {us : List Value} (lk : X.K.lookup f = some ⟨oc, od, .func (PySem.W.fnOf name qual params body scope dV kV doc pm an cdv ct), osl⟩) (hcd : PySem.W.codeIn X.K cdv qual = true) (S : GScope N ps scope) (hnc : ∀ y ∈ scope.names, y.2 ≠ .cell)
    (hr : Room k X.A) (hb : Binds X.K (PySem.W.fnOf name qual params body scope dV kV doc pm an cdv ct) ps []) (I : Inv X pins σ H s) (r : Vals vs us) (hl : vs.length = ps.length) :
    wpAny (model X.prog X.w) X.A (call (.ref f) us) (fun u s' => GMd X pins σ H N s (envOfC qual scope s.heap.objs.size f cdv) body (start N vs) u s') E1 s := by
  have KX := I.kIn
  have lim := I.nolimit
  have hkind : ∀ y ∈ ps.zip us, scope.names.lookup y.1 = some .local ∨ (scope.names.lookup y.1 = some .cell ∧ ((cellsFrom (s.heap.objs.size + 1) scope.names []).lookup y.1).isSome = true) := fun ⟨n, v⟩ hy => by
    rcases S.par n (List.of_mem_zip hy).1 with q | q
    · exact .inl q
    · exact .inr ⟨q, PySem.W.cellsFrom_some _ _ _ (.inl q)⟩
  have nocell : ∀ x, scope.names.lookup x ≠ some .cell := fun x h => hnc _ (PySem.mem_of_lookup h) rfl
  have nofree : ∀ x, scope.names.lookup x ≠ some .free := fun x h => S.nofree _ (PySem.mem_of_lookup h) rfl
  have hul : (us ++ []).length = ps.length := by rw [List.append_nil, ← r.length]; exact hl
  have hb' : BindsTo s (PySem.W.fnOf name qual params body scope dV kV doc pm an cdv ct) ⟨us, []⟩ (ps.zip us) := by
    have z := hb s us KX hul
    rwa [List.append_nil] at z
  refine wpAny_call (codeAny_mono (codeAny_call_generator (R := fun r s' => match r with | .ok (.ret u) => GMd X pins σ H N s (envOfC qual scope s.heap.objs.size f cdv) body (start N vs) u s' | _ => False) hr.depth (KX _ _ lk) rfl S.co S.gen rfl (PySem.W.codeRec_of KX hcd) (hb' _ _ _ _ ?_)) fun r s' hq => ?_)
  · refine wpAny_newFunctionEnv_cells S.kind hkind fun env he s1 x => ?_
    subst he
    refine ⟨lim.keeps x.toInCall.keep, ?_⟩
    have I1 := inv_startG (P := X.prog) (w := X.w) (K := X.K) (mg := X.mg) (base := X.base) (E := fun _ _ _ => False) (N := N) (ps := ps) (cd := cdv) S hr.hd I.env0 hl r x
    obtain ⟨m, ⟨og, es, ep, ho, hd, hk, hf⟩, hloc⟩ := I1.loc
    obtain ⟨h1, tk, es1, hk1⟩ := x.done
    have lt1 : s.heap.objs.size < s1.heap.objs.size := x.toInCall.ns.lt
    have hne : s1.heap.objs.size ≠ s.heap.objs.size := Nat.ne_of_gt lt1
    have main : ∀ (go : Obj) (nm qn : Value) (tk2 : Nat), go.cls = .type "generator" → go.data = .fields #[.int s1.gens.size 0, nm, qn] → go.slots = #[] → (∀ h : Heap, (h.push go).get? h.objs.size = some go) →
        GMd X pins σ H N s (envOfC qual scope s.heap.objs.size f cdv) body (start N vs) (.ref s1.heap.objs.size) { s1 with gens := s1.gens.push (.fresh (.func body (envOfC qual scope s.heap.objs.size f cdv))), toks := tk2, heap := s1.heap.push go } := by
      intro go nm qn tk2 hgc hgd hgs hgp
      have gget := hgp s1.heap
      have kp : ∀ b o, s.heap.get? b = some o → (s1.heap.push go).get? b = some o := fun b o e => Heap.get?_push_of_some _ (x.toInCall.keep b o e)
      have J : Inv X pins σ H { s1 with gens := s1.gens.push (.fresh (.func body (envOfC qual scope s.heap.objs.size f cdv))), toks := tk2, heap := s1.heap.push go } := by
        have z := (inv_gens (G := s1.gens.push (.fresh (.func body (envOfC qual scope s.heap.objs.size f cdv)))) I (AllBare.push (by rw [es1]; exact I.bare) rfl)).kept (h' := s1.heap.push go) (t' := tk2) kp
        rw [es1] at z ⊢
        exact z
      refine ⟨s1.heap.objs.size, go, s1.gens.size, og, rfl, ⟨S.kind, rfl, rfl, rfl, fun y c h => ?_, fun y => ⟨fun h => nocell y h, fun h => nofree y h⟩, I.lt⟩, fun h e => ⟨go, nm, qn, e, hgc, hgd, hgs⟩, gget, Array.getElem?_push_size .., ⟨⟨m, es, ep, hd, hk, hf, fun i y v a1 a2 a3 => ?_⟩, I1.len⟩, ?_, fun p hp z => ?_, hne, fun v z => by rw [hgd] at z; cases z⟩
      · have h' : (cellsFrom (s.heap.objs.size + 1) scope.names []).lookup y = some c := h
        rw [cells_none _ _ _ hnc] at h'
        cases h'
      · obtain ⟨u, rv, l⟩ := hloc i y v a1 a2 a3
        rcases l with ⟨k1, k2⟩ | ⟨k1, _⟩
        · exact ⟨u, rv, k1, k2⟩
        · exact (k1.elim (nocell y) (nofree y)).elim
      · refine J.pins_of fun p hp => ?_
        rcases List.mem_append.mp hp with q | q
        · exact J.pin p (List.mem_append_right _ q)
        · rcases List.mem_cons.mp q with q | q
          · rw [q]
            exact ⟨gget, I.hok.fresh (Nat.le_of_lt lt1), Nat.ne_of_gt (Nat.lt_trans I.lt lt1), I.nofs (Nat.le_of_lt lt1), fun v z => by have z' : go.data = .cell v := z; rw [hgd] at z'; cases z'⟩
          · rw [List.mem_singleton.mp q]
            exact ⟨Heap.get?_push_of_some _ ho, I.hok.fresh (Nat.le_refl _), Nat.ne_of_gt I.lt, I.nofs (Nat.le_refl _), fun v z => by have z' : og.data = .cell v := z; rw [hd] at z'; cases z'⟩
      · have := Heap.lt_size (I.pin p hp).1
        rw [z] at this
        exact Nat.lt_irrefl _ this
    exact main _ _ _ _ rfl rfl rfl fun h => Heap.get?_push_size _ rfl
  · cases r with
    | error e => exact False.elim hq
    | ok fl =>
      cases fl with
      | ret u => exact hq
      | next => exact False.elim hq
      | brk => exact False.elim hq
      | cont => exact False.elim hq
end
section
variable {X : Cx} {Wout : WX} {N ps : List Str} {st : Stmt} {x : Str} {p1 b1 : Stmt} {tg iter e tgc e1 : Expr} {es : List Expr} {bodyc : List Stmt} {yp ep fpos nm cpos pos : Pos} {tp tb : XK → TS} {wi : TI} {gt gc : TG} {te : TE} {tbc : TS} {ta : TA} {k : Nat}
theorem ps_forG (F : DB X.K X.mg x st ps) (S : GScope N ps (defScope st)) (hnc : ∀ y ∈ (defScope st).names, y.2 ≠ .cell) (hbd : defBody st = [p1, .For tg iter [b1, .Expr (.Yield (some e) yp) ep] [] fpos])
    (Dv : Drv X) (tk : Takes X Wout) (hp : PassesOwn (model X.prog X.w) X.A X.env X.xe) (hgc : PGG X tgc gc) (hbc : PSsG X bodyc tbc) (hr : Room (k + 2) X.A) (ha : PA X (e1 :: es) ta) (hg : Gl X x) (hint : ∀ n f cdv, interactive (envOfC x (defScope st) n f cdv) = false)
    (hs : ∀ n f cdv v, foldedSetIterable iter (envOfC x (defScope st) n f cdv) v = pure v)
    (hbody : ∀ (n f : Addr) (cdv : Value) (pn : List (Addr × Obj)) (o : Obj) (σ : L2.St), Room k (gX X N (envOfC x (defScope st) n f cdv) pn o (gxe X (envOfC x (defScope st) n f cdv) pn σ (ESg X Wout σ))).A → Takes (gX X N (envOfC x (defScope st) n f cdv) pn o (gxe X (envOfC x (defScope st) n f cdv) pn σ (ESg X Wout σ))) (fun cls d _ H' => ESg X Wout σ cls d H') →
      PS (gX X N (envOfC x (defScope st) n f cdv) pn o (gxe X (envOfC x (defScope st) n f cdv) pn σ (ESg X Wout σ))) p1 (tp (ESg X Wout σ)) ∧ PI (gX X N (envOfC x (defScope st) n f cdv) pn o (gxe X (envOfC x (defScope st) n f cdv) pn σ (ESg X Wout σ))) tg iter wi ∧
      PG (gX X N (envOfC x (defScope st) n f cdv) pn o (gxe X (envOfC x (defScope st) n f cdv) pn σ (ESg X Wout σ))) tg gt ∧ PS (gX X N (envOfC x (defScope st) n f cdv) pn o (gxe X (envOfC x (defScope st) n f cdv) pn σ (ESg X Wout σ))) b1 (tb (ESg X Wout σ)) ∧
      PE (gX X N (envOfC x (defScope st) n f cdv) pn o (gxe X (envOfC x (defScope st) n f cdv) pn σ (ESg X Wout σ))) e te)
    (hsc : ∀ v, foldedSetIterable (.Call (.Name x nm) (e1 :: es) [] cpos) X.env v = pure v := by intro _; rfl) (hdb : (x == ("__debug__" : Str)) = false := by decide)
    (he : starEach (e1 :: es) X.env = (false, eval e1 X.env) :: starEach es X.env := by rfl) (hpl : (backTo cpos (starEach es X.env)).any (·.1) = false := by rfl) :
    PS X (.For tgc (.Call (.Name x nm) (e1 :: es) [] cpos) bodyc [] pos) (fun D σ H => ta σ H fun vs H1 => vs.length = ps.length ∧ tp (ESg X Wout σ) { nx := GenZ wi gt tb te (ESg X Wout) gc tbc D 1000 σ, rt := fun _ _ => False } (start N vs) H1) := by
  obtain ⟨f, fd, F0, hm, b⟩ := F.ex
  have kp := F0.kp
  obtain ⟨oc, od, kV, doc, pm, an, cdv, ct, osl, rfl, lk, hcd⟩ := F0.ex
  refine ⟨fun pins s σ H D I h => ?_⟩
  refine wpAny_For ?_ hsc
  refine wpAny_Call_Name_kw (ld_glob I hg hm ?_ hdb)
  refine PySem.W.callWith_K (h₀ := X.base) I.ok.mod.kin kp (thn (ha.run cpos pins s σ H _ I h) fun us s1 ⟨vs, H1, I1, r, hl, q⟩ => ⟨I1.kIn, ?_⟩) he hpl
  refine wpAny_mono (gen_made (E1 := X.xe) lk hcd S hnc hr b I1 r hl) (fun u s2 h2 => ?_) fun _ _ z => z
  obtain ⟨a, go, gi, og, rfl, G, hgo, hga, hgs, Sl, I2, hne, hane, hcell⟩ := h2
  have hk : Room k (X.A.in1.deeper (envOfC x (defScope st) s1.heap.objs.size f cdv)) := (Room.in1 hr).deeper _
  refine wpAny_pyIter_gen (hgo _ hga) ?_
  have I3 : Inv X (X.pn ++ (pins ++ [(a, go), (s1.heap.objs.size, og)])) σ H1 (s2.setGen gi .running) := inv_gens (I2.pins_of fun p hp => I2.pin p hp) (allBare_setGen I2.bare rfl)
  have sub : ∀ p ∈ X.pn ++ (pins ++ [(a, go)]), p ∈ X.pn ++ (pins ++ [(a, go), (s1.heap.objs.size, og)]) := fun p hp => by
    rcases List.mem_append.mp hp with q | q
    · exact List.mem_append_left _ q
    · rcases List.mem_append.mp q with q | q
      · exact List.mem_append_right _ (List.mem_append_left _ q)
      · refine List.mem_append_right _ (List.mem_append_right _ ?_)
        rw [List.mem_singleton.mp q]
        exact List.mem_cons_self ..
  refine drive (pins0 := X.pn ++ (pins ++ [(a, go)])) (go := go) (gi := gi) (I2.ok.hd Dv.cm) hr.depth tk hp hgc hbc hgo (List.mem_append_right _ (List.mem_append_right _ (List.mem_singleton.mpr rfl))) (fun p hp => List.mem_append_right _ (List.mem_append_left _ hp)) (fun p hp => (I2.pin p (sub p hp)).2.2.2.2) 1000 s2 ⟨_, hgs, rfl, ?_⟩ hga I2.nolimit
  show Seg _ _ _ _ _ _ (.func (defBody st) (envOfC x (defScope st) s1.heap.objs.size f cdv)) _ [] _
  rw [hbd]
  refine gen_seg (P0 := X.pn ++ (pins ++ [(a, go), (s1.heap.objs.size, og)])) Dv G (fun p hp => List.mem_append_left _ hp) S.co (hint _ _ _) (fun o σ => hbody s1.heap.objs.size f cdv _ o σ) hk (hs _ _ _) I3 Sl (List.mem_append_right _ (List.mem_append_right _ (List.mem_cons_of_mem _ (List.mem_cons_self ..)))) (fun p hp => ⟨sub p hp, ?_⟩) q
  rcases List.mem_append.mp hp with q | q
  · exact hne p (List.mem_append_left _ q)
  · rcases List.mem_append.mp q with q | q
    · exact hne p (List.mem_append_right _ q)
    · rw [List.mem_singleton.mp q]
      exact hane
end
end Tl
end

section
set_option Elab.async false
set_option linter.all false
set_option maxRecDepth 100000
set_option maxHeartbeats 4000000
/-! A driver's body: the table of generators stays. -/
namespace Tl
open PySem PySem.Spec PyProof.Rows L2 Evl GenW
open C8 (Fun fnArgs)
structure PEG (X : Cx) (e : Expr) (t : TE) : Prop where
  run : ∀ (pins : List (Addr × Obj)) (s : Shared) (σ : L2.St) (H : Hp) (Q : VK), Inv X pins σ H s → t σ H Q → wpAny (model X.prog X.w) X.A (eval e X.env) (fun u s' => EP X pins σ Q u s' ∧ s'.gens = s.gens) (fun _ _ => False) s
section
variable {X : Cx} {e o : Expr} {te to : TE} {pos apos cpos p : Pos} {f : Str}
theorem pgg_name {i : Nat} {x : Str} (hN : X.N.Nodup) (hi : X.N[i]? = some x) (hk : X.env.scope.names.lookup x = some .local) : PGG X (.Name x pos) (gName i) := by
  intro pins s σ H v u Q I r h
  obtain ⟨m, hn, hl⟩ := id I.loc
  have hcls : (X.env.scope.kind == .class || (X.env.scope.kind == .module && X.env.locals != X.env.globals)) = false := by rw [I.ok.kind]; rfl
  have hiσ : i < σ.length := by rw [I.len]; exact (List.getElem?_eq_some_iff.mp hi).1
  refine wpAny_assign_Name (wpAny_storeName_local hk hn (fun h' hn' hs => ⟨⟨_, H, ?_, h⟩, rfl⟩) hcls)
  have neL : ∀ {b : Addr} {ob : Obj}, X.s_0.heap.get? b = some ob → b ≠ X.env.locals := fun e => Nat.ne_of_lt (Nat.lt_of_lt_of_le (Heap.lt_size e) I.ok.above)
  refine ⟨I.ok, I.os, I.bare, ⟨fun b ob e n hb hx => (hs.2 b (neL e)).trans (I.base.keep b ob e n hb hx), fun b ob e n hb hx => ?_, I.base.free, fun b ob e hx => ?_, I.base.tups, I.base.frzs, I.base.tbls⟩, ⟨_, hn', fun j y v' e1 e2 e3 => ?_⟩, fun y c e => ?_, I.free, I.freeC, fun q hq => ?_, fun b ob e => ?_, by rw [List.length_set]; exact I.len⟩
  · obtain ⟨sl, e1⟩ := I.base.slot b ob e n hb hx
    exact ⟨sl, (hs.2 b (neL e)).trans e1⟩
  · obtain ⟨o', e1⟩ := I.base.there b ob e hx
    exact ⟨o', (hs.2 b (neL e)).trans e1⟩
  · by_cases hj : j = i
    · rw [hj] at e1 e2
      rw [hi] at e1
      cases Option.some.inj e1
      rw [List.getElem?_set_self hiσ] at e2
      cases Option.some.inj (Option.some.inj e2)
      exact ⟨u, r, .inl ⟨hk, if_pos rfl⟩⟩
    · rw [List.getElem?_set_ne (Ne.symm hj)] at e2
      obtain ⟨u', r', q⟩ := hl j y v' e1 e2 e3
      rcases q with ⟨k, e⟩ | ⟨k, c, e, z⟩
      · have ny : y ≠ x := fun e => hj (nodup_ix hN e1 (e ▸ hi))
        exact ⟨u', r', .inl ⟨k, (if_neg ny).trans e⟩⟩
      · exact ⟨u', r', .inr ⟨k, c, e, z.sameBut hs (I.cne y c e)⟩⟩
  · obtain ⟨w', z⟩ := I.cell y c e
    exact ⟨w', z.sameBut hs (I.cne y c e)⟩
  · obtain ⟨e, n, ne, nf, d⟩ := I.pin q hq
    exact ⟨(hs.2 q.1 ne).trans e, n, ne, nf, d⟩
  · refine (I.hok b ob e).stay (fun c w' hc q => (hs.2 c ?_).trans q) (fun _ q => q) fun _ _ q => q
    intro z
    rcases hc with hc | hc
    · rw [← hc, z, I.free] at e; cases e
    · rw [z, I.free] at hc; cases hc
theorem peg_var {i : Nat} {x : Str} (hN : X.N[i]? = some x) (hv : X.env.scope.names.lookup x = some .local) (hc : ∀ x c, X.env.cells.lookup x = some c → False) (hd : (x == ("__debug__" : Str)) = false := by decide) : PEG X (.Name x pos) (tVar i) := by
  refine ⟨fun pins s σ H Q I h => ?_⟩
  obtain ⟨v, e, h⟩ := h
  obtain ⟨m, hn, hl⟩ := I.loc
  obtain ⟨u, r, l⟩ := hl i x v hN e (.inl hv)
  rcases l with ⟨hk, hm⟩ | ⟨_, c, q, _⟩
  · exact wpAny_Name (wpAny_loadName_local I.ok.kind hk hn hm ⟨⟨v, H, I, r, h⟩, rfl⟩) hd
  · exact (hc x c q).elim
theorem peg_fld (he : PEG X e te) (hb : attributeBase e f X.env (eval e X.env) = eval e X.env) : PEG X (.Attribute e f pos) (tFld X.K te f) := by
  refine ⟨fun pins s σ H Q I h => ?_⟩
  refine attr_of hb (wpAny_mono (he.run pins s σ H _ I h) (fun u s1 h1 => ?_) fun _ _ z => z)
  obtain ⟨⟨x, H1, I1, rx, a, C, dx, fs, v, rfl, ea, c, n, l, q⟩, g1⟩ := h1
  obtain rfl : u = Value.ref a := rx
  obtain ⟨mA, O, r, _, _, _⟩ := ins_get I1.hok ea
  obtain ⟨u, hu, ru⟩ := RelO.some_of (v := v) (o := mA f) (by rw [← l]; exact r f)
  exact get_map I1.kIn O (c.get f) c.hd n hu (handed_of ru) ⟨⟨v, H1, I1.tok _, ru, q⟩, g1⟩
/-- list(e), e a list -/
theorem peg_list (he : PEG X e te) (hg : Gl X "list") (hm : X.mg "list" = none) (hv : bootBuiltins "list" = some (.type "list"))
    (hst : starEach [e] X.env = (false, eval e X.env) :: starEach [] X.env := by rfl) :
    PEG X (.Call (.Name "list" p) [e] [] pos) (fun σ H Q => te σ H fun x H1 => ∃ l ys, x = .ref l ∧ SqL X.K H1 l ys ∧ ∀ q, H1 q = none → Q (.ref q) (upd H1 q (.lst ys))) := by
  refine ⟨fun pins s σ H Q I h => ?_⟩
  refine wpAny_Call_Name_kw (ld_blt I hg hm hv ?_ (by decide) (by decide))
  refine PyProof.Rows.callWith_type1 ?_ hst rfl
  rw [hst]
  show wpAny _ _ (spliced ((false, eval e X.env) :: backTo pos (starEach [] X.env))) _ _ s
  refine Calls.spliced_cons (wpAny_mono (he.run pins s σ H _ I h) (fun u s1 h1 => ?_) fun _ _ z => z)
  obtain ⟨⟨x, H1, I1, rx, l, ys, rfl, hq, q⟩, g1⟩ := h1
  obtain rfl : u = Value.ref l := rx
  refine Calls.spliced_nil ?_
  obtain ⟨its, r', pl, hz⟩ := I1.list hq
  have hlen := r'.length
  obtain ⟨ob, ho, hc, n, hd⟩ := pl.isList
  refine call_list_seq l (.inl rfl) ho hc hd (fun h' c' kp e => ⟨⟨.ref s1.heap.objs.size, _, I1.laid (t' := s1.toks) kp (Nat.le_refl _) (show ObjOk X.prog X.w _ h' _ (.lst ys) from ⟨hz, its, c', r', e⟩), rfl, q _ (I1.hok.fresh (Nat.le_refl _))⟩, g1⟩) (by simp only [List.size_toArray] <;> omega)
/-- l.append(e) -/
theorem peg_append {to : TE} (ho : PEG X o to) (he : PEG X e te) (hbase : attributeBase o "append" X.env (eval o X.env) = eval o X.env)
    (hfew : ((backTo cpos (starEach [e] X.env)).all (fun x => !x.1) && (backToKw cpos (keywordEach [] X.env)).all (fun x => x.1.isSome)
      && decide ([e].length + ([] : List Keyword).length + (if ([] : List Keyword).isEmpty then 0 else 1) < 30)) = true := by rfl)
    (hline : (apos.endLine == cpos.line) = true := by rfl) (hs : starEach [e] X.env = (false, eval e X.env) :: starEach [] X.env := by rfl) :
    PEG X (.Call (.Attribute o "append" apos) [e] [] cpos) (fun σ H Q => to σ H fun x H1 => (∃ l xs, x = .ref l ∧ H1 l = some (.lst xs)) ∧ te σ H1 fun y H2 => ∃ l xs, x = .ref l ∧ H2 l = some (.lst xs) ∧ xs.length < sizeLine ∧ Q .non (upd H2 l (.lst (xs ++ [y])))) := by
  refine ⟨fun pins s σ H Q I h => ?_⟩
  refine wpAny_Call_method_late hbase hfew hline rfl (wpAny_mono (ho.run pins s σ H _ I h) (fun v s1 h1 => ?_) fun _ _ z => z)
  obtain ⟨⟨x, H1, I1, r1, ⟨l0, xs0, e0, ty⟩, q1⟩, g1⟩ := h1
  obtain ⟨h1, h2⟩ := tyV_is (T := "list") I1 r1 (by rw [e0]; exact .inl ⟨rfl, xs0, sq_of ty⟩)
  refine ⟨"list", "list.append", PySem.F.plainAttrs_list, PySem.F.slot_list_append, PySem.F.type_list_append, h1, h2, ?_⟩
  rw [hs]
  refine Calls.callWith_builtin (by rfl) (Calls.evalArgs_plain ?_)
  show wpAny _ _ (spliced ((false, eval e X.env) :: backTo cpos (starEach [] X.env))) _ _ s1
  refine Calls.spliced_cons (wpAny_mono (he.run pins s1 σ H1 _ I1 q1) (fun u s2 h2 => ?_) fun _ _ z => z)
  obtain ⟨⟨y, H2, I2, ry, l, xs, rfl, hH, hz, q⟩, g2⟩ := h2
  refine Calls.spliced_nil ?_
  obtain rfl : v = Value.ref l := r1
  obtain ⟨z, its, n, r, hl, e⟩ := I2.lstM hH
  refine call_meets F.slot_list_append ⟨_, e, rfl⟩ F.entry_list_append (F.args_list_append_2 _ _) (PySem.list_append l its.toArray n u (by rw [List.size_toArray]; omega)) ⟨e, ?_⟩
  refine ⟨⟨.non, _, I2.lset (its' := its ++ [u]) hH e (by simp) (r.append (.cons ry .nil)) ?_, rfl, q⟩, g2.trans g1⟩
  rw [List.length_append, List.length_singleton]
  omega
theorem psG_expr (he : PEG X e te) (hs : swapsWith e none pos.line X.env = pure false := by rfl) : PSsG X [.Expr e pos] (tSeq (tDrop te) tNext) := by
  intro pins s σ H D I h
  refine wpAny_execs_cons (wpAny_Expr_any (wpAny_mono (he.run pins s σ H _ I h) (fun v s1 h1 => ?_) fun _ _ z => z) I.quiet hs)
  obtain ⟨⟨x, H1, I1, r1, q1⟩, g1⟩ := h1
  exact wpAny_execs_nil ⟨⟨σ, H1, I1, q1⟩, g1⟩
theorem psG_ret (he : PEG X e te) : PSsG X [.Return (some e) pos] (tRet te) := by
  intro pins s σ H D I h
  refine wpAny_execs_cons (wpAny_Return_some (wpAny_mono (he.run pins s σ H _ I h) (fun v s1 h1 => ?_) fun _ _ z => z))
  obtain ⟨⟨x, H1, I1, r1, q1⟩, g1⟩ := h1
  exact ⟨⟨x, σ, H1, I1, r1, q1⟩, g1⟩
end
/-- a def's promise that leaves the table of generators -/
structure FnG (P : Program) (w : World) (K : PySem.W.Frag) (mg : Str → Option Value) (base : Heap) (k : Nat) (f : Addr) (fd : FuncData) (ps : List Str) (sp : Sp) : Prop where
  len : ∀ vs H Q E, sp vs H Q E → vs.length = ps.length
  run : ∀ (A : Around) (outer : List Env) (s : Shared) (H : Hp) (args : Args) (us : List Value) (vs : List V) (Q : VK), Room k A → Env0 P w K mg base A outer s H → BindsTo s fd args (ps.zip us) → Vals vs us → sp vs H Q (fun _ _ _ => False) →
    codeAny (model P w) A (.call (.ref f) args) (fun r s' => match r with | .ok (.ret u) => CE outer P w H s Q u s' ∧ s'.gens = s.gens | _ => False) s
theorem fnG_of {P : Program} {w : World} {K : PySem.W.Frag} {mg : Str → Option Value} {base : Heap} {k : Nat} {f : Addr} {name qual : Str} {params : Arguments} {body : List Stmt} {scope : Scope} {dV kV doc pm cdv ct oc : Value} {an od : Option Addr}
    {osl : Array (Option Value)} {N ps : List Str} {sp : Sp} (lk : K.lookup f = some ⟨oc, od, .func (PySem.W.fnOf name qual params body scope dV kV doc pm an cdv ct), osl⟩) (hcd : PySem.W.codeIn K cdv qual = true) (S : FnScope N ps scope)
    (len : ∀ vs H Q E, sp vs H Q E → vs.length = ps.length)
    (hbody : ∀ (A : Around) (outer : List Env) (s : Shared) (H : Hp) (vs : List V) (Q : VK), sp vs H Q (fun _ _ _ => False) →
      ∃ t, PSsG (cxOf L2.CX0 P w K mg base N qual scope f cdv A outer s H fun _ _ _ => False) body t ∧ t { nx := fun _ H' => Q .non H', rt := Q } (start N vs) H) :
    FnG P w K mg base (k + 1) f (PySem.W.fnOf name qual params body scope dV kV doc pm an cdv ct) ps sp := by
  refine ⟨len, fun A outer s H args us vs Q hr e0 hb r hsp => ?_⟩
  have hl := len _ _ _ _ hsp
  have KX : K.In s.heap := e0.mod.kin.keeps fun b o e => (e0.bs b o e).1
  have lim : s.heap.NoLimit := e0.mod.nolimit.keeps fun b o e => (e0.bs b o e).1
  have hkind : ∀ y ∈ ps.zip us, scope.names.lookup y.1 = some .local ∨ (scope.names.lookup y.1 = some .cell ∧ ((cellsFrom (s.heap.objs.size + 1) scope.names []).lookup y.1).isSome = true) := fun ⟨n, v⟩ hy => by
    rcases S.par n (List.of_mem_zip hy).1 with q | q
    · exact .inl q
    · exact .inr ⟨q, PySem.W.cellsFrom_some _ _ _ (.inl q)⟩
  refine codeAny_call_function hr.depth (KX _ _ lk) rfl S.co S.gen rfl (PySem.W.codeRec_of KX hcd) (hb _ _ _ _ ?_)
  refine wpAny_newFunctionEnv_cells S.kind hkind fun env he s1 x => ?_
  subst he
  refine ⟨lim.keeps x.toInCall.keep, codeAny_func ?_⟩
  obtain ⟨t, ht, hq⟩ := hbody A outer s H vs Q hsp
  have I : Inv (cxOf L2.CX0 P w K mg base N qual scope f cdv A outer s H fun _ _ _ => False) [] (start N vs) H s1 := inv_start S hr.hd e0 hl r x
  obtain ⟨h1, tk, es1, _⟩ := x.done
  refine wpAny_mono (ht [] s1 (start N vs) H _ I hq) (fun fl s' hs => ?_) fun _ _ z => z.elim
  obtain ⟨hs, g1⟩ := hs
  have g2 : s'.gens = s.gens := by rw [g1, es1]
  have fin : ∀ {σ' : L2.St} {H' : Hp} {v : V} {u : Value}, Inv (cxOf L2.CX0 P w K mg base N qual scope f cdv A outer s H fun _ _ _ => False) [] σ' H' s' → RelV v u → Q v H' → CE outer P w H s Q u s' :=
    fun {σ' H' v u} J rv q => ⟨v, H', J.os, J.bare, J.base, J.hok, rv, q⟩
  cases fl with
  | ret u =>
    obtain ⟨v, σ', H', J, rv, q⟩ := hs
    exact ⟨fin J rv q, g2⟩
  | next =>
    obtain ⟨σ', H', J, q⟩ := hs
    exact ⟨fin (v := V.non) (u := Value.none) J rfl q, g2⟩
  | brk =>
    obtain ⟨_, _, _, q⟩ := hs
    exact False.elim q
  | cont =>
    obtain ⟨_, _, _, q⟩ := hs
    exact False.elim q
/-- o.m() -/
theorem peg_meth0 {X : Cx} {o : Expr} {ta : TE} {C : Addr} {m : Str} {f : Addr} {fd : FuncData} {sp : Sp} {k : Nat} {apos pos : Pos} {pl : Sem Bool} (he : PEG X o ta) (c : Cls X.K C) (hm : Meth X.K C m f) (F : FnG X.prog X.w X.K X.mg X.base k f fd ["self"] sp) (hr : Room k X.A) (hb : Binds X.K fd ["self"] [])
    (ht : eval (.Call (.Attribute o m apos) [] [] pos) X.env = (do
      let ov ← eval o X.env
      standAt apos.atName
      let (f, first) ← holding [ov] (getMethod ov m pl)
      callWith pos f first (backTo pos (starEach [] X.env)) (backToKw pos (keywordEach [] X.env))) := by rfl) :
    PEG X (.Call (.Attribute o m apos) [] [] pos) (fun σ H Q => ta σ H fun x H1 => ∃ a dx fs, x = .ref a ∧ H1 a = some (.ins C dx fs) ∧ fs.lookup m = none ∧ sp [x] H1 Q fun _ _ _ => False) := by
  refine ⟨fun pins s σ H Q I h => ?_⟩
  refine PySem.W.methodCall_KW (pl := pl) (wpAny_mono (he.run pins s σ H _ I h) (fun u s1 h1 => ?_) fun _ _ z => z) ht
  obtain ⟨⟨x, H1, I1, rx, a, dx, fs, rfl, ea, l, q⟩, g1⟩ := h1
  obtain rfl : u = Value.ref a := rx
  refine getmeth_ok I1 ea c hm l ?_
  refine PySem.W.callWith_K0 (first := [.ref a]) I1.kIn hm.kp ?_
  have hb1 : BindsTo s1 fd ⟨[.ref a], []⟩ ((["self"] : List Str).zip [Value.ref a]) := hb s1 [.ref a] I1.kIn rfl
  refine wpAny_call (codeAny_mono (F.run X.A X.stack s1 H1 ⟨[.ref a], []⟩ [.ref a] [.ref a] Q hr I1.env0 hb1 (.cons rfl .nil) q) fun r s' hq => ?_)
  cases r with
  | error e => exact hq.elim
  | ok fl =>
    cases fl with
    | ret u => exact ⟨I1.after hq.1, hq.2.trans g1⟩
    | next => exact hq.elim
    | brk => exact hq.elim
    | cont => exact hq.elim
end Tl
end

section
set_option Elab.async false
set_option linter.all false
set_option maxRecDepth 100000
set_option maxHeartbeats 4000000
/-! unpacked, walked. -/
namespace Tl
open PySem PySem.Spec PyProof.Rows L2 Evl
open Tar (By)
open C8 (Cal Met Mak pe_c pe_mk pe_mt pe_mt0 pe_gc fnScope_by)
theorem wf_put {S : HS} {n : Nat} {m : Mem} (W : S.Wf n) (hn : m.nm ∈ labels) : (S.put m).Wf (n + 1) := by
  have W1 : ((abv m.nm).foldl HS.mk1 S).Wf n := wf_mks W fun q hq => abv_labels m.nm hn q hq
  cases m with
  | dir nm mo ti => exact (wf_store W1 hn fun i e => by cases e).mono (Nat.le_succ _)
  | sym nm mo ti g => exact (wf_store W1 hn fun i e => by cases e).mono (Nat.le_succ _)
  | fil nm mo ti d => exact wf_storeF W1 hn _
  | spa nm mo ti k x y => exact wf_storeF W1 hn _
  | lnk nm mo ti g =>
    refine HS.Wf.mono (wf_store W1 hn fun i e => ?_) (Nat.le_succ _)
    cases h : ((abv nm).foldl HS.mk1 S).get g with
    | none =>
      have e' : ((((abv nm).foldl HS.mk1 S).get g).getD (.dir 0 0)) = .fil i := e
      rw [h] at e'
      cases e'
    | some t =>
      have e' : ((((abv nm).foldl HS.mk1 S).get g).getD (.dir 0 0)) = .fil i := e
      rw [h] at e'
      exact W1.idx g i (h.trans (congrArg some e'))
def runH (S : HS) (i : Nat) : List Mem → HS ⊕ (Nat × Str)
  | [] => .inl S
  | m :: ms => if S.refuse m = "" then runH (S.put m) (i + 1) ms else .inr (i, S.refuse m)
/-- the members of a list -/
def MsA (a : Ad) (H : Hp) : List V → List Mem → Prop := Paired fun v m => ∃ q, v = .ref q ∧ MemAt a H q m
theorem MsA.mono {a : Ad} {H H' : Hp} {xs : List V} {ms : List Mem} (A : Apart a) (e : ExT a H H') (h : MsA a H xs ms) : MsA a H' xs ms := Paired.mapP h fun _ _ z => let ⟨q, e1, e2⟩ := z; ⟨q, e1, e2.mono A e⟩
section
variable {P : Program} {w : World} {K : PySem.W.Frag} {mg : Str → Option Value} {base : Heap} {a : Ad}
theorem ep_copied {σ : L2.St} {H : Hp} {E : XK} {p dx st fi ro : Addr} {S : HS} {ta : TE} (hh : HAt K a H p dx st fi ro S) (W : S.Wf 50) (ha : Ev ta σ H (.ref p)) :
    EvP (tMeth a.cHouse "copied" (spCopied K a) [] E ta tNil) σ H (fun v H' => ∃ q dx2 st2 fi2 ro2 rs, v = .ref q ∧ H q = none ∧ H st2 = none ∧ H fi2 = none ∧ HAt K a H' q dx2 st2 fi2 ro2 S ∧ H' ro2 = some (.lst rs) ∧ RowsA K H' rs S.rows) := fun H1 e Q k =>
  ha H1 e _ fun H2 e2 => ⟨p, dx, _, rfl, ((hh.mono e).mono e2).obj, rfl, p, dx, st, fi, ro, S, rfl, (hh.mono e).mono e2, W, fun q dx2 st2 fi2 ro2 rs H3 n1 n2 n3 e3 g1 g2 g3 =>
    k _ H3 (e2.trans e3) ⟨q, dx2, st2, fi2, ro2, rs, rfl, fresh_back (e.trans e2) n1, fresh_back (e.trans e2) n2, fresh_back (e.trans e2) n3, g1, g2, g3⟩⟩
theorem q_forE {D : Ends} {tz tb : TS} {ta : TA} {σ : L2.St} {H : Hp} {p : Addr} {xs : List V} {g : TG} (h : EvA ta σ H [.ref p]) (hx : SqL K H p xs) (Pv : Nat → L2.St → Hp → Prop) (h0 : ∀ H1, Ex H H1 → Pv 0 σ H1) (hG : ∀ i σ' H', i ≤ xs.length → Pv i σ' H' → SqL K H' p xs)
    (hs : ∀ i x σ' H' T, xs[i]? = some x → Pv i σ' H' → H' T = none → g (.ref T) σ' (upd H' T (.tup [vN i, x])) fun σ2 H2 => tb { D with nx := Pv (i + 1), ct := Pv (i + 1), bk := tz D } σ2 H2) (hd : ∀ σ' H', Pv xs.length σ' H' → tz D σ' H') : tSeq (tFor (iEnum K ta) g tb) tz D σ H :=
  h H (Ex.refl H) _ fun H1 e => ⟨p, xs, rfl, ex_l e hx, for_it (D := { D with nx := tz D }) walk_enum Pv (h0 H1 e) hG (fun i x σ' H' H'' hi hp y => by
    obtain ⟨T, u, v, rfl, hT, rfl, z1, z2⟩ := y
    cases Option.some.inj z1
    exact hs i v σ' H' T z2 hp hT) hd⟩
abbrev nm_unpacked : List Str := ["house", "members", "made", "index", "member"]
theorem sc_unpacked : FnScope nm_unpacked ["house", "members"] (defScope s_unpacked) := fnScope_by (by decide +kernel)
abbrev spUnpd (K : PySem.W.Frag) (a : Ad) : Sp := fun vs H Q E => ∃ p dx st fi ro S n l xs ms, vs = [.ref p, .ref l] ∧ HAt K a H p dx st fi ro S ∧ S.Wf n ∧ n + ms.length ≤ 40 ∧ H l = some (.lst xs) ∧ MsA a H xs ms ∧ (∀ m ∈ ms, m.Ok) ∧
  (∀ S', runH S 0 ms = .inl S' → ∀ q dx2 st2 fi2 ro2 rs H', H q = none → Ex H H' → HAt K a H' q dx2 st2 fi2 ro2 S' → H' ro2 = some (.lst rs) → RowsA K H' rs S'.rows → Q (.ref q) H') ∧
  (∀ i w, runH S 0 ms = .inr (i, w) → ∀ d H', Ex H H' → H d = none → H' d = some (.xd [("word", .str w), ("index", vN i)]) → E (.ref a.cRef) (some d) H')
theorem ok_unpacked (T : Txt K mg a) (M : Mcl K a) (F : DB K mg "unpacked" s_unpacked ["house", "members"]) (c_copied : Met P w K mg base 3 a.cHouse "copied" (spCopied K a) []) (c_unpack_one : CalX P w K mg base 5 "unpack_one" (spUnp K a)) :
    CalX P w K mg base 6 "unpacked" (spUnpd K a) := by
  obtain ⟨fu, fdu, psu, Fu, hmu, kpu, bu⟩ := c_unpack_one.ex
  refine calx_of F sc_unpacked (fun vs H Q E h => by obtain ⟨p, dx, st, fi, ro, S, n, l, xs, ms, rfl, _⟩ := h; rfl) fun f cdv A outer s H vs Q E hr tk h => ⟨_, (pss_cons (ps_set (i := 2) sc_unpacked.nd rfl (Or.inl rfl) (C8.pe_mt0 c_copied hr (by decide) (pv 0)))
    (pss_cons (ps_for (passes_of rfl) rfl (pi_enum (by rfl) T.b_enumerate (pa_cons (pv 1) pa_nil)) (pg_tup rfl (pgs_cons (pg_name (i := 3) sc_unpacked.nd rfl (Or.inl rfl)) (pgs_cons (pg_name (i := 4) sc_unpacked.nd rfl (Or.inl rfl)) pgs_nil))) (pss_one (ps_expr (pe_call Fu (hr.mono (by decide)) rfl hmu kpu bu .nil (passes_call tk fun _ _ _ _ h => h) (pa_cons (pv 2) (pa_cons (pv 3) (pa_cons (pv 4) pa_nil)))))))
    (pss_one (ps_ret (C8.pe_mt0 c_copied hr (by decide) (pv 2)))))), ?_⟩
  obtain ⟨p, dx, st, fi, ro, S, n, l, xs, ms, rfl, hh, W, hn, hl, hms, hok, k1, k2⟩ := h
  refine q_asgP (ep_copied hh (W.mono (by omega)) (ev_var rfl)) fun x H1 e1 hx => ?_
  obtain ⟨q, dq, st2, fi2, ro2, rs, rfl, hq, hst2, hfi2, hh1, _, _⟩ := hx
  have toEx : ∀ {H3 H4}, Ex H H3 → ExO [st2, fi2] H3 H4 → Ex H H4 := fun {H3 H4} e eo b o hb => eo b o (e b o hb) fun z => by
    rcases List.mem_cons.mp z with z | z
    · rw [z, hst2] at hb; cases hb
    · rw [List.mem_singleton.mp z, hfi2] at hb; cases hb
  have len : xs.length = ms.length := paired_len hms
  refine q_forE (xs := xs) (ea_cons (ev_var rfl) ea_nil) (sq_of (e1 _ _ hl)) (fun i σ' H' => Ex H H' ∧ ∃ S' u v, HAt K a H' q dq st2 fi2 ro2 S' ∧ S'.Wf (n + i) ∧ runH S' i (ms.drop i) = runH S 0 ms ∧ σ' = [some (.ref p), some (.ref l), some (.ref q), u, v]) (fun H2 e2 => ⟨e1.trans e2, S, none, none, hh1.mono e2, W, rfl, rfl⟩)
    (fun i σ' H' _ h => sq_of (h.1 _ _ hl)) ?_ ?_
  · rintro i x σ' H' t hx ⟨e3, S', u, v, hh3, W3, hrun, rfl⟩ ht
    have hi := (List.getElem?_eq_some_iff.1 hx).1
    have him : i < ms.length := by omega
    obtain ⟨m0, h2, q2, rfl, hm⟩ := paired_get hms hx
    rw [List.getElem?_eq_getElem him] at h2
    cases Option.some.inj h2
    have hdrop := List.drop_eq_getElem_cons him
    have hmem := List.getElem_mem him
    have hmo := hok _ hmem
    rw [hdrop] at hrun
    generalize ms[i] = m at hm hmem hmo hrun
    have e4 := e3.trans (Ex.new (o := .tup [.int i, .ref q2]) ht)
    refine ⟨t, _, rfl, st_of upd_same, rfl, _, _, rfl, _, _, rfl, rfl, ?_⟩
    refine s_dropC (ea_cons (ev_var rfl) (ea_cons (ev_var (v := vN i) rfl) (ea_cons (ev_var rfl) ea_nil))) fun H5 e5 => ?_
    have e45 := e4.trans e5
    have hh5 := (hh3.mono (Ex.new ht)).mono e5
    refine ⟨q, dq, st2, fi2, ro2, S', q2, m, i, rfl, hh5, W3.mono (by omega), hm.mono M.ap (ExT.of e45), hmo, fun hz H6 e6 hh6 => ?_, fun hz d H6 e6 hd hd6 => ?_⟩
    · rw [runH, if_pos hz] at hrun
      exact ⟨toEx e45 e6, S'.put m, _, _, hh6, wf_put W3 hmo.base.nm, hrun, rfl⟩
    · rw [runH, if_neg hz] at hrun
      exact k2 i (S'.refuse m) hrun.symm d H6 (e45.trans e6) (fresh_back e45 hd) hd6
  · rintro σ' H' ⟨e3, S', u, v, hh3, W3, hrun, rfl⟩
    rw [len, List.drop_length] at hrun
    refine s_retP (ep_copied hh3 (W3.mono (by omega)) (ev_var rfl)) fun x H4 e4 hx => ?_
    obtain ⟨q4, d4, st4, fi4, ro4, rs4, rfl, n4, _, _, hh4, g4, r4⟩ := hx
    exact k1 S' hrun.symm q4 d4 st4 fi4 ro4 rs4 H4 (fresh_back e3 n4) (e3.trans e4) hh4 g4 r4
end
end Tl
end

section
set_option Elab.async false
set_option linter.all false
set_option maxRecDepth 100000
set_option maxHeartbeats 4000000
/-! walked, _law_walk. -/
namespace Tl
open PySem PySem.Spec PyProof.Rows L2 Evl
open Tar (By)
open C8 (Cal Met Mak pe_c pe_mk pe_mt pe_mt0 pe_gc fnScope_by)
section
variable {P : Program} {w : World} {K : PySem.W.Frag} {mg : Str → Option Value} {base : Heap} {a : Ad}
abbrev nm_walked : List Str := ["house", "members", "made", "index", "member"]
theorem sc_walked : GScope nm_walked ["house", "members"] (defScope s_walked) := ⟨rfl, rfl, rfl, by decide +kernel, by decide +kernel, by decide +kernel, by decide +kernel⟩
theorem hnc_walked : ∀ y ∈ (defScope s_walked).names, y.2 ≠ .cell := by decide +kernel
abbrev w_p1 : Stmt := match defBody s_walked with | p :: _ => p | _ => s_walked
abbrev w_for : Stmt := match defBody s_walked with | _ :: p :: _ => p | _ => s_walked
abbrev x0 : Expr := .Name "" ⟨0, 0, 0, 0⟩
abbrev w_tg : Expr := match w_for with | .For t _ _ _ _ => t | _ => x0
abbrev w_it : Expr := match w_for with | .For _ t _ _ _ => t | _ => x0
abbrev w_fp : Pos := match w_for with | .For _ _ _ _ p => p | _ => ⟨0, 0, 0, 0⟩
abbrev w_b1 : Stmt := match w_for with | .For _ _ (b :: _) _ _ => b | _ => s_walked
abbrev w_y : Expr := match w_for with | .For _ _ [_, .Expr y _] _ _ => y | _ => x0
abbrev w_yp0 : Pos := match w_for with | .For _ _ [_, .Expr _ p] _ _ => p | _ => ⟨0, 0, 0, 0⟩
abbrev w_e : Expr := match w_y with | .Yield (some e) _ => e | _ => x0
abbrev w_yp : Pos := match w_y with | .Yield _ p => p | _ => ⟨0, 0, 0, 0⟩
theorem hbd_walked : defBody s_walked = [w_p1, .For w_tg w_it [w_b1, .Expr (.Yield (some w_e) w_yp) w_yp0] [] w_fp] := rfl
abbrev w_tp (K : PySem.W.Frag) (a : Ad) : XK → TS := fun _ => tAsg (tMeth a.cHouse "copied" (spCopied K a) [] C8.E0 (tVar 0) tNil) (gName 2)
abbrev w_wi (K : PySem.W.Frag) : TI := iEnum K (tCons (tVar 1) tNil)
abbrev w_gt (K : PySem.W.Frag) : TG := gTup K 2 (gCons (gName 3) (gCons (gName 4) gNil))
abbrev w_tb (K : PySem.W.Frag) (a : Ad) : XK → TS := fun E => tDrop (tCall (spUnp K a) [] E (tCons (tVar 2) (tCons (tVar 3) (tCons (tVar 4) tNil))))
abbrev w_te (K : PySem.W.Frag) (a : Ad) : TE := tMeth a.cHouse "copied" (spCopied K a) [] C8.E0 (tVar 2) tNil
theorem gent_walked {X : Cx} {Wout : WX} (c_copied : Met X.prog X.w X.K X.mg X.base 3 a.cHouse "copied" (spCopied X.K a) []) (c_unpack_one : CalX X.prog X.w X.K X.mg X.base 5 "unpack_one" (spUnp X.K a)) (T : Txt X.K X.mg a) (n f : Addr) (cdv : Value) (pn : List (Addr × Obj)) (o : Obj) (σ : L2.St)
    (hr : Room 5 (gX X nm_walked (envOfC "walked" (defScope s_walked) n f cdv) pn o (gxe X (envOfC "walked" (defScope s_walked) n f cdv) pn σ (ESg X Wout σ))).A)
    (tk : Takes (gX X nm_walked (envOfC "walked" (defScope s_walked) n f cdv) pn o (gxe X (envOfC "walked" (defScope s_walked) n f cdv) pn σ (ESg X Wout σ))) (fun cls d _ H' => ESg X Wout σ cls d H')) :
    PS (gX X nm_walked (envOfC "walked" (defScope s_walked) n f cdv) pn o (gxe X (envOfC "walked" (defScope s_walked) n f cdv) pn σ (ESg X Wout σ))) w_p1 (w_tp X.K a (ESg X Wout σ)) ∧ PI (gX X nm_walked (envOfC "walked" (defScope s_walked) n f cdv) pn o (gxe X (envOfC "walked" (defScope s_walked) n f cdv) pn σ (ESg X Wout σ))) w_tg w_it (w_wi X.K) ∧ PG (gX X nm_walked (envOfC "walked" (defScope s_walked) n f cdv) pn o (gxe X (envOfC "walked" (defScope s_walked) n f cdv) pn σ (ESg X Wout σ))) w_tg (w_gt X.K) ∧
      PS (gX X nm_walked (envOfC "walked" (defScope s_walked) n f cdv) pn o (gxe X (envOfC "walked" (defScope s_walked) n f cdv) pn σ (ESg X Wout σ))) w_b1 (w_tb X.K a (ESg X Wout σ)) ∧ PE (gX X nm_walked (envOfC "walked" (defScope s_walked) n f cdv) pn o (gxe X (envOfC "walked" (defScope s_walked) n f cdv) pn σ (ESg X Wout σ))) w_e (w_te X.K a) := by
  obtain ⟨fu, fdu, psu, Fu, hmu, kpu, bu⟩ := c_unpack_one.ex
  exact ⟨(ps_set (i := 2) sc_walked.nd rfl (Or.inl rfl) (C8.pe_mt0 c_copied hr (by decide) (pv 0))), (pi_enum (by rfl) T.b_enumerate (pa_cons (pv 1) pa_nil)), (pg_tup rfl (pgs_cons (pg_name (i := 3) sc_walked.nd rfl (Or.inl rfl)) (pgs_cons (pg_name (i := 4) sc_walked.nd rfl (Or.inl rfl)) pgs_nil))), (ps_expr (pe_call Fu (hr.mono (by decide)) rfl hmu kpu bu .nil (passes_call tk fun _ _ _ _ h => h) (pa_cons (pv 2) (pa_cons (pv 3) (pa_cons (pv 4) pa_nil))))), (C8.pe_mt0 c_copied hr (by decide) (pv 2))⟩
abbrev spEnt (K : PySem.W.Frag) (a : Ad) : Sp := fun vs H Q _ => ∃ p dx st fi ro S rs, vs = [.ref p] ∧ HAt K a H p dx st fi ro S ∧ H ro = some (.lst rs) ∧ ∀ q H', H q = none → Ex H H' → H' q = some (.lst rs) → Q (.ref q) H'
theorem ok_entriesG (T : Txt K mg a) (F2 : HouF K a) {f : Addr} {fd : FuncData} (F : C8.Fun K "entries" "House.entries" s_House_entries f fd) : FnG P w K mg base 1 f fd ["self"] (spEnt K a) := by
  obtain ⟨oc, od, dV, kV, doc, pm, an, cdv, ct, osl, rfl, lk, hcd⟩ := F.ex
  refine fnG_of lk hcd sc_House_entries (fun vs H Q E h => by obtain ⟨p, dx, st, fi, ro, S, rs, rfl, _⟩ := h; rfl) fun A outer s H vs Q h => ⟨_, psG_ret (peg_list (peg_fld (peg_var (i := 0) rfl rfl fun x c h => ?_) rfl) rfl T.b_list (by decide +kernel)), ?_⟩
  · have h' : (cellsFrom (s.heap.objs.size + 1) (defScope s_House_entries).names []).lookup x = some c := h
    rw [cells_none _ _ _ (by decide +kernel)] at h'
    cases h'
  · obtain ⟨p, dx, st, fi, ro, S, rs, rfl, hh, h1, k⟩ := h
    exact ⟨.ref p, rfl, p, a.cHouse, dx, _, .ref ro, rfl, hh.obj, F2.cl.cl, F2.cl.no "rows" (by decide), rfl, ro, rs, rfl, sq_of h1, fun q hq => k q _ hq (Ex.new hq) upd_same⟩
/-- what an except clause for Refused wants -/
structure RfH (K : PySem.W.Frag) (mg : Str → Option Value) (C : Addr) : Prop where
  mgR : mg "Refused" = some (.ref C)
  xf : XfC K C
  fI : PySem.W.findIn K (.ref C) "index" = some none
  fW : PySem.W.findIn K (.ref C) "word" = some none
  ex : PySem.W.exmOne K (.ref C) (.ref C) = some true
  ns : PySem.W.subIn K (.ref C) (.type "StopIteration") = some false
abbrev nm_law_walk : List Str := ["_law_some", "_law_found", "_law_house_here", "e"]
theorem sc_law_walk : FnScope nm_law_walk ["_law_some"] (defScope s_law_walk) := fnScope_by (by decide +kernel)
def walkH (S : HS) (i : Nat) : List Mem → List HS × Option (Nat × Str)
  | [] => ([], none)
  | m :: ms => if S.refuse m = "" then ((S.put m) :: (walkH (S.put m) (i + 1) ms).1, (walkH (S.put m) (i + 1) ms).2) else ([], some (i, S.refuse m))
def RowsL (K : PySem.W.Frag) (fo : Addr) (H : Hp) : List V → List (List (Path × En)) → Prop := Paired fun v r => ∃ q rs, v = .ref q ∧ q ≠ fo ∧ H q = some (.lst rs) ∧ RowsA K H rs r
theorem RowsL.mono {fo : Addr} {H H' : Hp} {fs : List V} {rs : List (List (Path × En))} (e : ∀ b rs, H b = some (.lst rs) → b ≠ fo → H' b = some (.lst rs)) (eT : ExT a H H') (h : RowsL K fo H fs rs) : RowsL K fo H' fs rs := Paired.mapP h fun _ _ z => let ⟨q, r, e1, n, e2, e3⟩ := z; ⟨q, r, e1, n, e q _ e2 n, e3.mono (a := a) eT⟩
theorem HAt.putL {H : Hp} {p dx st fi ro fo : Addr} {S : HS} {fs fs' : List V} (hf : H fo = some (.lst fs)) (h : HAt K a H p dx st fi ro S) : HAt K a (upd H fo (.lst fs')) p dx st fi ro S := by
  obtain ⟨kvs, h1, h2⟩ := h.std
  obtain ⟨fvs, h3, h4⟩ := h.fls
  obtain ⟨rs, h5⟩ := h.rws
  have eT : ExT a H (upd H fo (.lst fs')) := ExT.put hf stay_lst
  have n1 : p ≠ fo := fun z => by have := h.obj; rw [z, hf] at this; cases this
  have n2 : st ≠ fo := fun z => by rw [z, hf] at h1; cases h1
  have n3 : fi ≠ fo := fun z => by rw [z, hf] at h3; cases h3
  refine ⟨by rw [upd_ne n1]; exact h.obj, h.ne, ⟨kvs, by rw [upd_ne n2]; exact h1, h2.mono (a := a) eT⟩, ⟨fvs, by rw [upd_ne n3]; exact h3, h4.mono (a := a) eT⟩, ?_⟩
  by_cases z : ro = fo
  · exact ⟨fs', by rw [z]; exact upd_same⟩
  · exact ⟨rs, by rw [upd_ne z]; exact h5⟩
def RefV (H : Hp) : V → Option (Nat × Str) → Prop := fun v o => match o with | none => v = .non | some (i, w) => ∃ q, v = .ref q ∧ H q = some (.lst [vN i, .str w])
abbrev spWalk (K : PySem.W.Frag) (a : Ad) : Sp := fun vs H Q _ => ∃ l xs ms, vs = [.ref l] ∧ H l = some (.lst xs) ∧ MsA a H xs ms ∧ (∀ m ∈ ms, m.Ok) ∧ ms.length ≤ 30 ∧
  ∀ t fo fs z H', Ex H H' → H' t = some (.tup [.ref fo, z]) → H' fo = some (.lst fs) → RowsL K fo H' fs ([] :: (walkH .emp 0 ms).1.map HS.rows) → RefV H' z (walkH .emp 0 ms).2 → Q (.ref t) H'
theorem drv_of {CX : CXT} {N : List Str} {qual : Str} {scope : Scope} {f : Addr} {cd : Value} {A : Around} {outer : List Env} {s : Shared} {H : Hp} {E : XK} {pn : List (Addr × Obj)} {xe : Value → Shared → Prop} (h : ∀ y ∈ scope.names, y.2 ≠ .cell) :
    Drv ((cxOf CX P w K mg base N qual scope f cd A outer s H E).nox.tr pn xe) :=
  ⟨rfl, rfl, rfl, rfl, (fun x c hx => by
    have h' : (cellsFrom (s.heap.objs.size + 1) scope.names []).lookup x = some c := hx
    rw [cells_none _ _ _ h] at h'
    cases h'), rfl⟩
theorem takes_no {X : Cx} : Takes X (fun _ _ _ _ => False) := fun u s' x => by
  obtain ⟨a, B, sI, pins, σ, H, cls, d, e, I, nb, up, sky, na, os, ag, w⟩ := x
  exact w.elim
abbrev lw_try : Stmt := match defBody s_law_walk with | _ :: t :: _ => t | _ => s_law_walk
abbrev lw_for : Stmt := match lw_try with | .Try [f] _ _ _ _ => f | _ => s_law_walk
abbrev lw_body : List Stmt := match lw_for with | .For _ _ b _ _ => b | _ => []
abbrev lw_tbc (K : PySem.W.Frag) (a : Ad) : TS := tSeq (tDrop (fun σ H Q => tVar 1 σ H fun x H1 => (∃ l xs, x = .ref l ∧ H1 l = some (.lst xs)) ∧ (fun σ H (Q : VK) => tVar 2 σ H fun x H1 => ∃ p dx fs, x = .ref p ∧ H1 p = some (.ins a.cHouse dx fs) ∧ fs.lookup ("entries" : Str) = none ∧ spEnt K a [x] H1 Q fun _ _ _ => False) σ H1 fun y H2 => ∃ l xs, x = .ref l ∧ H2 l = some (.lst xs) ∧ xs.length < sizeLine ∧ Q .non (upd H2 l (.lst (xs ++ [y]))))) tNext
abbrev lw_t (K : PySem.W.Frag) (a : Ad) (W : WX) : TS := fun D σ H => tCons (tMake a.cHouse (spNewH K a) [] C8.E0 tNil) (tCons (tVar 0) tNil) σ H fun vs H1 => vs.length = 2 ∧ w_tp K a (fun cls d H => W cls d σ H ∧ PySem.W.subIn K cls (.type "StopIteration") = some false) { nx := GenZ (w_wi K) (w_gt K) (w_tb K a) (w_te K a) (fun σ cls d H => W cls d σ H ∧ PySem.W.subIn K cls (.type "StopIteration") = some false) (gName 2) (lw_tbc K a) D 1000 σ, rt := fun _ _ => False } (start nm_walked vs) H1
theorem genz_enum {ta : TA} {σg σ : L2.St} {H : Hp} {p : Addr} {xs : List V} {gt gc : TG} {tb : XK → TS} {te : TE} {ES : L2.St → XK} {tbc : TS} {D : Ends} {n : Nat} (h : EvA ta σg H [.ref p]) (hx : SqL K H p xs)
    (k : ∀ H3, Ex H H3 → ∃ Z : Nat → Nat → L2.St → L2.St → Hp → Prop, (∃ m, m ≤ n ∧ Z 0 m σ σg H3) ∧ ∀ i m σc σg H', Z i m σc σg H' → (i = xs.length ∧ SqL K H' p xs ∧ D.nx σc H') ∨ (i < xs.length ∧ SqL K H' p xs ∧ 0 < m ∧ ∀ x T, xs[i]? = some x → H' T = none →
      gt (.ref T) σg (upd H' T (.tup [vN i, x])) fun σg2 H2 => tb (ES σc) { nx := fun σg3 H3 => te σg3 H3 fun y H4 => gc y σc H4 fun σc2 H5 => tbc { nx := fun σc3 H6 => ∃ m', m' < m ∧ Z (i + 1) m' σc3 σg3 H6, ct := fun σc3 H6 => ∃ m', m' < m ∧ Z (i + 1) m' σc3 σg3 H6, bk := fun _ _ => False, rt := fun _ _ => False } σc2 H5, rt := fun _ _ => False } σg2 H2)) :
    GenZ (iEnum K ta) gt tb te ES gc tbc D n σ σg H :=
  h H (Ex.refl H) _ fun H1 e => ⟨p, xs, rfl, ex_l e hx, by
    obtain ⟨Z, hz, hs⟩ := k H1 e
    refine ⟨Z, hz, fun i m σc σg H' z => ?_⟩
    rcases hs i m σc σg H' z with ⟨rfl, hq, q⟩ | ⟨hi, hq, hm, step⟩
    · exact .inl ⟨walk_enum.stops H' hq, q⟩
    · refine .inr ⟨walk_enum.goes i H' hi hq, hm, fun x H'' y => ?_⟩
      obtain ⟨T, u, v, rfl, hT, rfl, z1, z2⟩ := walk_enum.yields i H' x H'' hi hq y
      cases Option.some.inj z1
      exact step v T z2 hT⟩
theorem wf_emp (n : Nat) : HS.emp.Wf n := ⟨(fun kv h => by cases h), List.Pairwise.nil, (fun p i h => by cases h), Nat.zero_le _⟩
theorem lw_go {W : Ends → WX} {tz : TS} {D : Ends} {σ : L2.St} {H : Hp} (h : tMake a.cHouse (spNewH K a) [] C8.E0 tNil σ H fun v H1 => tCons (tVar 0) tNil σ H1 fun vs H2 => (v :: vs).length = 2 ∧ w_tp K a (fun cls d H => W { D with nx := tz D } cls d σ H ∧ PySem.W.subIn K cls (.type "StopIteration") = some false) { nx := GenZ (w_wi K) (w_gt K) (w_tb K a) (w_te K a) (fun σ cls d H => W { D with nx := tz D } cls d σ H ∧ PySem.W.subIn K cls (.type "StopIteration") = some false) (gName 2) (lw_tbc K a) { D with nx := tz D } 1000 σ, rt := fun _ _ => False } (start nm_walked (v :: vs)) H2) :
    tSeq (fun D σ H => lw_t K a (W D) D σ H) tz D σ H := h
theorem ok_law_walk (T : Txt K mg a) (M : Mcl K a) (R : RfH K mg a.cRef) (F2 : HouF K a) (F : DB K mg "_law_walk" s_law_walk ["_law_some"]) (Fw : DB K mg "walked" s_walked ["house", "members"]) (c_House : Mak P w K mg base 1 "House" a.cHouse (spNewH K a) []) (c_copied : Met P w K mg base 3 a.cHouse "copied" (spCopied K a) []) (c_unpack_one : CalX P w K mg base 5 "unpack_one" (spUnp K a))
    {fe : Addr} {fde : FuncData} (Fe : C8.Fun K "entries" "House.entries" s_House_entries fe fde) (me : Meth K a.cHouse "entries" fe) (bE : Binds K fde ["self"] []) :
    Cal P w K mg base 8 "_law_walk" (spWalk K a) [] := by
  have Fg : FnG P w K mg base 1 fe fde ["self"] (spEnt K a) := ok_entriesG T F2 Fe
  refine cal_of F sc_law_walk (fun vs H Q E h => by obtain ⟨l, xs, ms, rfl, _⟩ := h; rfl) fun f cdv A outer s H vs Q E hr h => ?_
  have tk0 : Takes (cxOf L2.CX0 P w K mg base nm_law_walk "_law_walk" (defScope s_law_walk) f cdv A outer s H E).nox (fun _ _ _ _ => False) := takes_no
  have nocells : ∀ x c, (envOfC "_law_walk" (defScope s_law_walk) s.heap.objs.size f cdv).cells.lookup x = some c → False := fun x c hx => by
    have h' : (cellsFrom (s.heap.objs.size + 1) (defScope s_law_walk).names []).lookup x = some c := hx
    rw [cells_none _ _ _ (by decide +kernel)] at h'
    cases h'
  have happ : ∀ pn xe, PSsG ((cxOf L2.CX0 P w K mg base nm_law_walk "_law_walk" (defScope s_law_walk) f cdv A outer s H E).nox.tr pn xe) lw_body (lw_tbc K a) := fun pn xe =>
    psG_expr (peg_append (peg_var (i := 1) rfl rfl nocells) (peg_meth0 (peg_var (i := 2) rfl rfl nocells) F2.cl.cl me Fg (hr.mono (by decide)) bE) rfl)
  have hfor : ∀ W pn xe, Takes ((cxOf L2.CX0 P w K mg base nm_law_walk "_law_walk" (defScope s_law_walk) f cdv A outer s H E).nox.tr pn xe) W → PassesOwn (model P w) (cxOf L2.CX0 P w K mg base nm_law_walk "_law_walk" (defScope s_law_walk) f cdv A outer s H E).nox.A (cxOf L2.CX0 P w K mg base nm_law_walk "_law_walk" (defScope s_law_walk) f cdv A outer s H E).nox.env xe →
      PS ((cxOf L2.CX0 P w K mg base nm_law_walk "_law_walk" (defScope s_law_walk) f cdv A outer s H E).nox.tr pn xe) lw_for (lw_t K a W) := fun W pn xe tk hp =>
    ps_forG (N := nm_walked) (ps := ["house", "members"]) (st := s_walked) (tp := w_tp K a) (wi := w_wi K) (gt := w_gt K) (tb := w_tb K a) (te := w_te K a) (k := 5) Fw sc_walked hnc_walked hbd_walked (drv_of (by decide +kernel)) tk hp (pgg_name (show nm_law_walk.Nodup by decide) (i := 2) rfl rfl) (happ pn xe) hr (pa_cons (pe_mk0 c_House hr (by decide) rfl) (pa_cons (pv 0) pa_nil)) rfl (fun _ _ _ => rfl) (fun _ _ _ _ => rfl) (fun n f cdv pn o σ hr tk => gent_walked c_copied c_unpack_one T n f cdv pn o σ hr tk)
  refine ⟨_, (pss_cons (ps_set (i := 1) sc_law_walk.nd rfl (Or.inl rfl) (pe_lst (pa_cons (pe_lst pa_nil) pa_nil)))
    (pss_cons (ps_try_as (i := 3) (Wout := fun _ _ _ _ => False) rfl rfl (show nm_law_walk.Nodup by decide) rfl rfl ⟨rfl, by decide, .inl R.mgR⟩ tk0 (fun W pn xe tk hp => pss_one (hfor W pn xe tk hp)) (fun ax oe cls d pn hz hf => (pss_one (ps_ret (pe_tup (pa_cons (pv 1) (pa_cons (pe_lst (pa_cons (pe_xf R.xf R.fI hz hf (pv 3)) (pa_cons (pe_xf R.xf R.fW hz hf (pv 3)) pa_nil))) pa_nil)))))))
    (pss_one (ps_ret (pe_tup (pa_cons (pv 1) (pa_cons pe_non pa_nil))))))), ?_⟩
  obtain ⟨l, xs, ms, rfl, hl, hms, hok, hn, k⟩ := h
  have len : xs.length = ms.length := paired_len hms
  refine q_asgP (P := fun v H' => ∃ fo e0, v = .ref fo ∧ H fo = none ∧ H' fo = some (.lst [.ref e0]) ∧ H' e0 = some (.lst [])) (fun H1 e Q q => ⟨Nat.zero_le _, fun p hp => ⟨(show (1 : Nat) ≤ sizeLine by decide), fun p2 hp2 => q _ _ ((Ex.new hp).trans (Ex.new hp2)) ⟨p2, p, rfl, fresh_back (e.trans (Ex.new hp)) hp2, upd_same, by
    have ne : p ≠ p2 := fun z => by rw [← z, upd_same] at hp2; cases hp2
    rw [upd_ne ne]
    exact upd_same⟩⟩⟩) fun x H1 e1 hx => ?_
  obtain ⟨fo, e0, rfl, hfo, gfo, ge0⟩ := hx
  refine lw_go ?_
  refine ep_House H1 (Ex.refl H1) _ fun v H2 e2 hv => ?_
  obtain ⟨q0, dx0, st0, fi0, ro0, rfl, hq0, _, _, hh0⟩ := hv
  refine ⟨_, rfl, rfl, ?_⟩
  refine s_asgP (ep_copied hh0 (wf_emp _) (ev_var rfl)) fun y H3 e3 hy => ?_
  obtain ⟨q2, dq, st2, fi2, ro2, rs2, rfl, hq2, hst2, hfi2, hh2, _, _⟩ := hy
  have ne0 : e0 ≠ fo := fun z => by rw [z, gfo] at ge0; cases ge0
  have e12 := e1.trans e2
  have hst2H : H st2 = none := fresh_back e12 hst2
  have hfi2H : H fi2 = none := fresh_back e12 hfi2
  have nst : fo ≠ st2 := fun z => by rw [← z, e2 _ _ gfo] at hst2; cases hst2
  have nfi : fo ≠ fi2 := fun z => by rw [← z, e2 _ _ gfo] at hfi2; cases hfi2
  have e13 := e12.trans e3
  refine genz_enum (ea_cons (ev_var rfl) ea_nil) (sq_of (e13 _ _ hl)) fun H4 e4 => ?_
  refine ⟨fun i m σc σg H' => m = ms.length - i ∧ i ≤ ms.length ∧ Ex H H' ∧ ∃ S' u v hs fs hv, HAt K a H' q2 dq st2 fi2 ro2 S' ∧ S'.Wf i ∧ walkH .emp 0 ms = (hs ++ (walkH S' i (ms.drop i)).1, (walkH S' i (ms.drop i)).2) ∧ H' fo = some (.lst fs) ∧ fs.length = i + 1 ∧ RowsL K fo H' fs ([] :: hs.map HS.rows) ∧ σg = [some (.ref q0), some (.ref l), some (.ref q2), u, v] ∧ σc = [some (.ref l), some (.ref fo), hv, none], ⟨ms.length, by omega, by simp, Nat.zero_le _, e13.trans e4, .emp, none, none, [], _, none, hh2.mono e4, (wf_emp _), rfl, e4 _ _ (e3 _ _ (e2 _ _ gfo)), rfl,   .cons ⟨e0, [], rfl, ne0, e4 _ _ (e3 _ _ (e2 _ _ ge0)), .nil⟩ .nil, rfl, rfl⟩, ?_⟩
  rintro i m σc σg H' ⟨rfl, hi, eH, S', u, v, hs, fs, hv, hh', W', hw, gf, lf, hR, rfl, rfl⟩
  have hsq : SqL K H' l xs := sq_of (eH _ _ hl)
  by_cases hlt : i < ms.length
  · refine .inr ⟨by omega, hsq, by omega, fun x t z2 ht => ?_⟩
    obtain ⟨m0, h2, q5, rfl, hm⟩ := paired_get hms z2
    rw [List.getElem?_eq_getElem hlt] at h2
    cases Option.some.inj h2
    have hdrop := List.drop_eq_getElem_cons hlt
    have hmo := hok _ (List.getElem_mem hlt)
    rw [hdrop] at hw
    generalize ms[i] = m at hm hmo hw
    have e5 := eH.trans (Ex.new (o := .tup [.int i, .ref q5]) ht)
    refine ⟨t, _, rfl, st_of upd_same, rfl, _, _, rfl, _, _, rfl, rfl, ?_⟩
    refine s_dropC (ea_cons (ev_var rfl) (ea_cons (ev_var (v := vN i) rfl) (ea_cons (ev_var rfl) ea_nil))) fun H6 e6 => ?_
    have e56 := e5.trans e6
    have hh6 := (hh'.mono (Ex.new ht)).mono e6
    have gf6 : H6 fo = some (.lst fs) := e6 _ _ (Ex.new ht _ _ gf)
    refine ⟨q2, dq, st2, fi2, ro2, S', q5, m, i, rfl, hh6, W'.mono (by omega), hm.mono M.ap (ExT.of e56), hmo, fun hz H7 e7 hh7 => ?_, fun hz d H7 e7 hd hd7 => ?_⟩
    · have e57 : Ex H H7 := fun b o hb => e7 b o (e56 b o hb) fun z => by
        rcases List.mem_cons.mp z with z | z
        · rw [z, hst2H] at hb; cases hb
        · rw [List.mem_singleton.mp z, hfi2H] at hb; cases hb
      have gf7 : H7 fo = some (.lst fs) := e7 _ _ gf6 (by simp [nst, nfi])
      refine (ep_copied hh7 ((wf_put W' hmo.base.nm).mono (by omega)) (ev_var rfl)) H7 (Ex.refl H7) _ fun y H8 e8 hy => ?_
      obtain ⟨q8, d8, st8, fi8, ro8, rs8, rfl, n8, _, _, hh8, g8, r8⟩ := hy
      have gf8 := e8 _ _ gf7
      refine ⟨.ref fo, rfl, ⟨fo, fs, rfl, gf8⟩, .ref q8, rfl, q8, d8, _, rfl, hh8.obj, rfl, q8, d8, st8, fi8, ro8, _, rs8, rfl, hh8, g8, fun r H9 hr9 e9 g9 => ⟨fo, fs, rfl, e9 _ _ gf8, (by rw [lf, sizeLine_eq]; omega), ?_⟩⟩
      have gf9 := e9 _ _ gf8
      have e59 := (e57.trans e8).trans e9
      have rfo : r ≠ fo := fun z => by rw [z, gf8] at hr9; cases hr9
      have xT : ExT a H' H7 := ((ExT.of (Ex.new ht)).trans (ExT.of e6)).trans (exT_of hh6 e7)
      have xB : ExO [st2, fi2] H' H7 := ((ExO.of (Ex.new ht)).trans (ExO.of e6)).trans e7
      have eT9 : ExT a H9 (upd H9 fo (.lst (fs ++ [.ref r]))) := ExT.put gf9 stay_lst
      refine ⟨ms.length - (i + 1), by omega, rfl, by omega, e59.mut hfo, S'.put m, _, _, hs ++ [S'.put m], fs ++ [.ref r], _, ((hh7.mono e8).mono e9).putL gf9, wf_put W' hmo.base.nm, ?_, upd_same, by rw [List.length_append, lf]; rfl, ?_, rfl, rfl⟩
      · rw [hw, walkH, if_pos hz]
        simp [List.append_assoc]
      · have c1 : RowsL K fo H7 fs ([] :: hs.map HS.rows) := hR.mono (a := a) (fun b rs hb _ => xB b _ hb fun z => by
          rcases List.mem_cons.mp z with z | z
          · obtain ⟨_, h1, _⟩ := hh'.std
            rw [z, h1] at hb; cases hb
          · obtain ⟨_, h1, _⟩ := hh'.fls
            rw [List.mem_singleton.mp z, h1] at hb; cases hb) xT
        have c2 : RowsL K fo (upd H9 fo (.lst (fs ++ [.ref r]))) fs ([] :: hs.map HS.rows) := (c1.mono (a := a) (fun b rs hb _ => (e8.trans e9) _ _ hb) (ExT.of (e8.trans e9))).mono (a := a) (fun b rs hb n => by rw [upd_ne n]; exact hb) eT9
        have c3 : RowsL K fo (upd H9 fo (.lst (fs ++ [.ref r]))) [.ref r] [(S'.put m).rows] := .cons ⟨r, rs8, rfl, rfo, by rw [upd_ne rfo]; exact g9, (r8.mono (a := a) (ExT.of e9)).mono (a := a) eT9⟩ .nil
        rw [List.map_append]
        exact paired_app c2 c3
    · refine ⟨⟨true, R.ex, fun _ ax hax => ?_, fun z => by cases z⟩, R.ns⟩
      rw [walkH, if_neg hz] at hw
      refine ⟨.ref fo, rfl, .ref ax, rfl, rfl, rfl, d, _, vN i, rfl, hd7, rfl, .ref ax, rfl, rfl, rfl, d, _, .str (S'.refuse m), rfl, hd7, rfl, (show (2 : Nat) ≤ sizeLine by decide), fun p hp => ⟨(show (2 : Nat) ≤ sizeLine by decide), fun t2 ht2 => ?_⟩⟩
      have gf7 : H7 fo = some (.lst fs) := e7 _ _ gf6
      have ex7 : Ex H' H7 := ((Ex.new ht).trans e6).trans e7
      have ex9 := ex7.trans ((Ex.new hp).trans (Ex.new (o := .tup [.ref fo, .ref p]) ht2))
      have eq : walkH .emp 0 ms = (hs, some (i, S'.refuse m)) := by rw [hw]; simp
      refine k t2 fo fs (.ref p) _ (eH.trans ex9) upd_same (ex9 _ _ gf) ?_ ?_
      · rw [eq]
        exact hR.mono (a := a) (fun b rs hb _ => ex9 _ _ hb) (ExT.of ex9)
      · rw [eq]
        exact ⟨p, rfl, Ex.new ht2 _ _ upd_same⟩
  · refine .inl ⟨by omega, hsq, ?_⟩
    rw [show ms.drop i = [] from List.drop_eq_nil_of_le (by omega)] at hw
    refine ⟨.ref fo, rfl, (show (2 : Nat) ≤ sizeLine by decide), fun t ht => ?_⟩
    have tf : fo ≠ t := fun z => by rw [← z, gf] at ht; cases ht
    have eq : walkH .emp 0 ms = (hs, none) := by rw [hw]; simp [walkH]
    refine k t fo fs .non _ (eH.trans (Ex.new ht)) upd_same (by rw [upd_ne tf]; exact gf) ?_ ?_
    · rw [eq]
      exact hR.mono (a := a) (fun b rs hb _ => Ex.new ht _ _ hb) (ExT.of (Ex.new ht))
    · rw [eq]
      rfl
end
end Tl
end

section
set_option Elab.async false
set_option linter.all false
set_option maxRecDepth 100000
set_option maxHeartbeats 4000000
/-! _law_house. -/
namespace Tl
open PySem PySem.Spec PyProof.Rows L2 Evl
open Tar (By)
open C8 (Cal Met Mak pe_c pe_mk pe_mt pe_mt0 pe_gc fnScope_by)
section
variable {P : Program} {w : World} {K : PySem.W.Frag} {mg : Str → Option Value} {base : Heap} {a : Ad}
abbrev nm_law_house : List Str := ["_law_some", "e"]
theorem sc_law_house : FnScope nm_law_house ["_law_some"] (defScope s_law_house) := fnScope_by (by decide +kernel)
abbrev spLH (K : PySem.W.Frag) (a : Ad) : Sp := fun vs H Q _ => ∃ l xs ms, vs = [.ref l] ∧ H l = some (.lst xs) ∧ MsA a H xs ms ∧ (∀ m ∈ ms, m.Ok) ∧ ms.length ≤ 30 ∧
  ∀ q ys H', H q = none → Ex H H' → H' q = some (.lst ys) → (∀ S, runH .emp 0 ms = .inl S → RowsA K H' ys S.rows) → (∀ i w, runH .emp 0 ms = .inr (i, w) → ys = [vN i, .str w]) → Q (.ref q) H'
theorem lh_go {W : WX} {D : Ends} {σ : L2.St} {H : Hp} (h : tMake a.cHouse (spNewH K a) [] C8.E0 tNil σ H fun v H1 => tCons (tVar 0) tNil σ H1 fun vs H2 => spUnpd K a (v :: vs) H2 (fun x H3 => ∃ p dx fs, x = .ref p ∧ H3 p = some (.ins a.cHouse dx fs) ∧ fs.lookup ("entries" : Str) = none ∧ spEnt K a [x] H3 D.rt C8.E0) (WE W σ)) :
    tRet (tMeth a.cHouse "entries" (spEnt K a) [] C8.E0 (tCallS (spUnpd K a) (WE W) (tCons (tMake a.cHouse (spNewH K a) [] C8.E0 tNil) (tCons (tVar 0) tNil))) tNil) D σ H := h
theorem ok_law_house (T : Txt K mg a) (M : Mcl K a) (R : RfH K mg a.cRef) (F : DB K mg "_law_house" s_law_house ["_law_some"]) (c_House : Mak P w K mg base 1 "House" a.cHouse (spNewH K a) []) (c_entries : Met P w K mg base 1 a.cHouse "entries" (spEnt K a) []) (c_unpacked : CalX P w K mg base 6 "unpacked" (spUnpd K a)) :
    Cal P w K mg base 7 "_law_house" (spLH K a) [] := by
  obtain ⟨fu, fdu, psu, Fu, hmu, kpu, bu⟩ := c_unpacked.ex
  refine cal_of F sc_law_house (fun vs H Q E h => by obtain ⟨l, xs, ms, rfl, _⟩ := h; rfl) fun f cdv A outer s H vs Q E hr h => ⟨_, (pss_one (ps_try_as (i := 1) (Wout := fun _ _ _ _ => False) rfl rfl (show nm_law_house.Nodup by decide) rfl rfl ⟨rfl, by decide, .inl R.mgR⟩ takes_no (fun W pn xe tk hp => pss_one (ps_ret (C8.pe_mt0 c_entries hr (by decide) (pe_callS Fu (hr.mono (by decide)) rfl hmu kpu bu (fun σ => passAt tk σ) (pa_cons (pe_mk0 c_House hr (by decide) rfl) (pa_cons (pv 0) pa_nil)))))) (fun ax oe cls d pn hz hf => (pss_one (ps_ret (pe_lst (pa_cons (pe_xf R.xf R.fI hz hf (pv 1)) (pa_cons (pe_xf R.xf R.fW hz hf (pv 1)) pa_nil)))))))), ?_⟩
  obtain ⟨l, xs, ms, rfl, hl, hms, hok, hn, k⟩ := h
  refine lh_go ?_
  refine ep_House H (Ex.refl H) _ fun v H2 e2 hv => ?_
  obtain ⟨q0, dx0, st0, fi0, ro0, rfl, hq0, _, _, hh0⟩ := hv
  refine ⟨_, rfl, q0, dx0, st0, fi0, ro0, .emp, 0, l, xs, ms, rfl, hh0, wf_emp _, by omega, e2 _ _ hl, hms.mono M.ap (ExT.of e2), hok, fun S' hS q dx2 st2 fi2 ro2 rs H3 hq3 e3 hh3 g3 r3 => ?_, fun i w hr d H3 e3 hd hd3 => ?_⟩
  · refine ⟨q, dx2, _, rfl, hh3.obj, rfl, q, dx2, st2, fi2, ro2, S', rs, rfl, hh3, g3, fun r H4 hr4 e4 g4 => ?_⟩
    have e24 := (e2.trans e3).trans e4
    refine k r rs H4 (fresh_back (e2.trans e3) hr4) e24 g4 (fun S h => ?_) (fun i w h => by rw [hS] at h; cases h)
    rw [hS] at h
    cases h
    exact r3.mono (a := a) (ExT.of e4)
  · refine ⟨true, R.ex, fun _ ax hax => ?_, fun z => by cases z⟩
    have e23 := e2.trans e3
    refine ⟨.ref ax, rfl, rfl, rfl, d, _, vN i, rfl, hd3, rfl, .ref ax, rfl, rfl, rfl, d, _, .str w, rfl, hd3, rfl, (show (2 : Nat) ≤ sizeLine by decide), fun p hp => ?_⟩
    refine k p _ _ (fresh_back e23 hp) (e23.trans (Ex.new hp)) upd_same (fun S h => by rw [hr] at h; cases h) (fun i2 w2 h => ?_)
    rw [hr] at h
    cases h
    rfl
end
end Tl
end

section
set_option Elab.async false
set_option linter.all false
set_option maxRecDepth 100000
set_option maxHeartbeats 4000000
namespace Tl
open PySem PySem.Spec PyProof.Rows L2 Evl PySem.Builtin PySem.Builtin.Float PySem.Builtin.Int
theorem parse_o : ∃ f, parseFormatSpec ("o" : Str).cps.toList "int" 62 = .ok f ∧ f.type = some 111 ∧ f.precision = none ∧ f.noNeg0 = false ∧ f.alt = false ∧ f.width = none ∧ f.grouping = none ∧ f.sign = none ∧ f.fill = 32 ∧ f.align = 62 := by
  refine ⟨_, rfl, ?_⟩
  decide
theorem fld_o {f : FormatSpec} (hw : f.width = none) (hg : f.grouping = none) (hs : f.sign = none) (hf : f.fill = 32) (ha : f.align = 62) {l : List Nat} (hl : l ≠ []) : PyProof.Rows.intField' f false [] l [] 4 = ⟨l.toArray⟩ := by
  have e : l.isEmpty = false := by cases l with
    | nil => exact absurd rfl hl
    | cons _ _ => rfl
  have e2 : ((-1 : Int) - (0 + 0 + 0) - (l.length : Int)).toNat = 0 := by omega
  unfold PyProof.Rows.intField'
  simp [hw, hg, hs, hf, ha, e]
theorem ret_o {M : Model} {A : Around} {E : Value → Shared → Prop} {s : Shared} {x y : Str} {Q : Fin → Shared → Prop} (e : x = y) (h : wpAny M A (retStr y) Q E s) : wpAny M A (retStr x) Q E s := e ▸ h
theorem gives_o (n : Nat) (hn : n < 8 ^ 20) (t u : Tok) : Gives (Builtin.«int.__format__» ⟨[.int (n : Int) t, .str "o" u], []⟩) (.str ⟨((Nat.toDigits 8 n).map Char.toNat).toArray⟩) := fun prog w A R s hq => by
  obtain ⟨f, hp, hty, hpr, hz, hal, hw, hgr, hsg, hfi, hali⟩ := parse_o
  unfold Builtin.«int.__format__»
  have hne : (("o" : Str).length == 0) = false := by decide
  have hasc : ((("o" : Str).cps.toList.drop 1).any (· ≥ 128) || (("o" : Str).cps.getD 0 0 ≥ 128 && !([60, 62, 61, 94] : List Nat).contains (("o" : Str).cps.getD 1 0))) = false := by decide
  simp only [selfAndOne, noKeywords, Int.intOfSelf, asInt?, asStr?, List.isEmpty_nil, if_true, pure_bind, bind_pure, bind_assoc, hne, hasc, Bool.false_eq_true, if_false,
    show (Value.str "o" u == Value.none) = false from rfl]
  refine wpAny_bind (wpAny_typeNameOf (T := "str") (typeIs_str _ _ _) (by decide) fun _ => ?_)
  refine wpAny_bind (wpAny_typeNameOfCut_int ?_)
  simp only [hp, hty]
  rw [if_pos (by decide)]
  show wpAny _ _ (if _ then _ else _) _ _ _
  rw [if_neg (by simp [hpr])]
  show wpAny _ _ (if _ then _ else _) _ _ _
  rw [if_neg (by simp [hz])]
  show wpAny _ _ (if _ then _ else _) _ _ _
  rw [if_neg (by decide)]
  have hwd : ¬ (f.width.getD 0 > 100000) := by rw [hw]; decide
  dsimp only
  rw [if_neg hwd]
  have hd : ((Nat.toDigits 8 n).map fun c => (if (111 : Nat) == 88 then c.toUpper else c).toNat) = (Nat.toDigits 8 n).map Char.toNat := rfl
  have e : (decide ((n : Int) < 0)) = false := decide_eq_false (by omega)
  have key := fld_o hw hgr hsg hfi hali (l := (Nat.toDigits 8 n).map Char.toNat) (by
    intro h
    have := Tar.octD_pos n
    unfold Tar.octD at this
    rw [h] at this
    exact absurd this (by decide))
  have hl : ((Nat.toDigits 8 n).map Char.toNat).length ≤ 20 := Tar.octD_len (by decide) hn
  refine ret_o (y := ⟨((Nat.toDigits 8 n).map Char.toNat).toArray⟩) (Eq.trans ?_ key) ?_
  · simp only [e, hal, Option.getD_some, show ((111 : Nat) == 98) = false from rfl, show ((111 : Nat) == 111) = true from rfl, show ((111 : Nat) == 88) = false from rfl, show ((8 : Nat) == 10) = false from rfl, Bool.false_eq_true, if_false, if_true, Int.natAbs_natCast]
    show _ = PyProof.Rows.intField' f false [] ((Nat.toDigits 8 n).map Char.toNat) [] 4
    generalize ((Nat.toDigits 8 n).map Char.toNat) = l
    conv => lhs; whnf
    conv => rhs; whnf
    simp only [hw, hgr, hsg, hfi, hali]
  · unfold retStr
    refine wpAny_bind (wpAny_mkStr (wpAny_pure ?_) ?hs2)
    · exact hq.2
    · exact hq.1
end Tl
end

section
set_option Elab.async false
set_option linter.all false
set_option maxRecDepth 100000
set_option maxHeartbeats 4000000
/-! int(t, 8); {n:o}; calls of defs with keywords. -/
namespace Tl
open PySem PySem.Spec PyProof.Rows L2 Evl
namespace Oc
open PySem.NumText PySem.Calls
def IsO (c : Nat) : Prop := 48 ≤ c ∧ c ≤ 55
theorem IsO.hex {c : Nat} (h : IsO c) : Hx.IsHex c := Or.inl ⟨h.1, by have := h.2; omega⟩
theorem step8 {ds : Array Nat} {b : Bool} {c : Nat} (h : IsO c) : PySem.NumText.step 8 (ds, b) c = some (ds.push (c - 48), true) := by
  have hr := Hx.hex_rng h.hex
  have e : Hx.hv c = c - 48 := by
    unfold Hx.hv
    rw [if_pos (by have := h.2; omega)]
  unfold PySem.NumText.step
  rw [if_neg (fun z => hr.2.2 (beq_iff_eq.mp z)), Hx.digit_hex h.hex, e]
  exact if_pos (show c - 48 < 8 by have := h.1; have := h.2; omega)
theorem fold8 : ∀ (cs : List Nat) (ds : Array Nat), (∀ c ∈ cs, IsO c) → cs.foldlM (PySem.NumText.step 8) (ds, true) = some (cs.foldl (fun u c => u.push (c - 48)) ds, true)
  | [], _, _ => rfl
  | c :: cs, ds, h => by
    rw [List.foldlM_cons, step8 (h c (.head _))]
    exact fold8 cs (ds.push (c - 48)) fun d hd => h d (.tail _ hd)
theorem digits8 {cs : List Nat} (h : ∀ c ∈ cs, IsO c) (hne : cs ≠ []) : digits? 8 cs = some (cs.foldl (fun u c => u.push (c - 48)) #[]) := by
  cases cs with
  | nil => exact absurd rfl hne
  | cons c cs =>
    unfold digits?
    rw [List.foldlM_cons, step8 (h c (.head _))]
    show (cs.foldlM (PySem.NumText.step 8) ((#[] : Array Nat).push (c - 48), true)).bind _ = _
    rw [fold8 cs _ fun d hd => h d (.tail _ hd)]
    rfl
theorem push8 : ∀ (cs : List Nat) (ds : Array Nat), (cs.foldl (fun u c => u.push (c - 48)) ds).foldl (fun u d => u * 8 + d) 0 = cs.foldl (fun u c => u * 8 + (c - 48)) (ds.foldl (fun u d => u * 8 + d) 0)
  | [], _ => rfl
  | c :: cs, ds => by
    rw [List.foldl_cons, push8 cs (ds.push (c - 48)), List.foldl_cons]
    congr 1
    simp
theorem pref8 {cs : List Nat} (h : ∀ c ∈ cs, IsO c) : PySem.NumText.prefix? cs = none := by
  match cs, h with
  | [], _ => rfl
  | [x], _ =>
    unfold PySem.NumText.prefix?
    split
    · rename_i e
      cases e
    · rfl
  | x :: c :: r, h =>
    have hc := h c (.tail _ (.head _))
    unfold IsO at hc
    by_cases hx : x = 48
    · subst hx
      have e : PySem.NumText.prefix? (48 :: c :: r) = if (c == 120 || c == 88) = true then some 16 else if (c == 111 || c == 79) = true then some 8 else if (c == 98 || c == 66) = true then some 2 else none := rfl
      have n1 : ∀ k, 55 < k → (c == k) = false := fun k hk => beq_eq_false_iff_ne.mpr (by omega)
      rw [e, n1 120 (by decide), n1 88 (by decide), n1 111 (by decide), n1 79 (by decide), n1 98 (by decide), n1 66 (by decide)]
      rfl
    · unfold PySem.NumText.prefix?
      split
      · rename_i e
        exact absurd (List.cons.inj e).1 hx
      · rfl
theorem based8 {cs : List Nat} (h : ∀ c ∈ cs, IsO c) : based 8 cs = (8, false, cs) := by
  unfold based
  rw [pref8 h]
  rfl
theorem read8 {cs : List Nat} (h : ∀ c ∈ cs, IsO c) (hne : cs ≠ []) : (int_private% "readNumeral") 0 8 cs = (int_private% "Numeral.value") ((Tar.octV cs : Nat) : Int) := by
  have hx : ∀ c ∈ cs, Hx.IsHex c := fun c hc => (h c hc).hex
  have hr : ∀ c ∈ cs.reverse, Hx.IsHex c := fun c hc => hx c (List.mem_reverse.mp hc)
  refine (readNumeral_eq 0 8 cs).trans ?_
  rw [Hx.dropB hx, Hx.signH hx]
  show judge 0 false (based 8 cs).1 (based 8 cs).2.1 (digits? (based 8 cs).1 (((based 8 cs).2.2.reverse.dropWhile blank).reverse)) = _
  rw [based8 h]
  show judge 0 false 8 false (digits? 8 ((cs.reverse.dropWhile blank).reverse)) = _
  rw [Hx.dropB hr, List.reverse_reverse, digits8 h hne]
  show (int_private% "Numeral.value") (((cs.foldl (fun u c => u.push (c - 48)) (#[] : Array Nat)).foldl (fun u d => u * 8 + d) 0 : Nat) : Int) = _
  have z : (#[] : Array Nat).foldl (fun u d => u * 8 + d) 0 = 0 := by first | rfl | simp
  rw [push8, z] <;> rfl
set_option maxHeartbeats 4000000 in
theorem gives8 {x : PySem.Str} {u t : Tok} (hl : x.length ≤ 640) (h : ∀ c ∈ x.cps.toList, IsO c) (hne : x.cps.toList ≠ []) :
    Gives (Builtin.«int.__new__» ⟨[.type "int", .str x u, .int 8 t], []⟩) (.int ((Tar.octV x.cps.toList : Nat) : Int)) :=
  .of_wp fun M A E s Q hQ => by
    obtain ⟨hp, g, d, tk, os⟩ := s
    have f1 := F.conv_sub_int
    have f2 := F.madeHere_int
    have f6 : typeOf (.str x u) = pure (.type "str") := rfl
    have k1 := Hx.seen_hex (x := x) fun c hc => (h c hc).hex
    have hk := Hx.Hid.mk (show (numSeenOf x).length ≤ 640 ∧ (int_private% "readNumeral") 0 8 (numSeenOf x) = (int_private% "Numeral.value") ((Tar.octV x.cps.toList : Nat) : Int) ∧ ((numSeenOf x).length == (numTextOf x).length) = true by
      rw [k1.1, k1.2]
      exact ⟨by rw [Array.length_toList]; exact hl, read8 h hne, beq_self_eq_true _⟩)
    clear k1 hl hne h
    repeat (any_goals (first
      | assumption
      | ((with_reducible show wpAny _ _ ((int_private% "intFromText") _ _ _) _ _ _); refine Hx.wp_textB hk.out.1 hk.out.2.1 hk.out.2.2 ?_)
      | wp_step))
    all_goals first | exact ⟨_, rfl, hQ⟩ | skip
end Oc
/-- int(t, 8) -/
def rIntOct : List V → Hp → VK → Prop := fun xs H Q => ∃ l : List Nat, xs = [.str (SX.S l), .int 8] ∧ l ≠ [] ∧ l.length ≤ 640 ∧ (∀ c ∈ l, Oc.IsO c) ∧ Q (.int ((Tar.octV l : Nat) : Int)) H
theorem call_int_oct {X : Cx} : CallR X (.type "int") rIntOct := by
  intro pins s σ H xs us Q I r h
  obtain ⟨l, rfl, hne, hl, hx, q⟩ := h
  obtain ⟨u, w', rfl, r1, r2⟩ := vals2 r
  obtain ⟨t1, rfl⟩ := r1
  obtain ⟨t2, rfl⟩ := r2
  exact callType_new F.called_int F.newNe_int (Hx.typeCall_int_2 _ _) (Hx.newCall_int_2 _ _) (fun obj => F.initArgs_range_2 obj _ _) F.entry_int_new (Oc.gives8 (x := SX.S l) (by rw [SX.S_len]; exact hl) hx hne).meets
    (show (Made.int ((Tar.octV l : Nat) : Int)).post _ s from ⟨rfl, .int ((Tar.octV l : Nat) : Int), H, I.tok _, ⟨_, rfl⟩, q⟩)
section
variable {X : Cx}
/-- {n:o} -/
def tFmtO (te : TE) : TE := fun σ H Q => te σ H fun x H1 => ∃ n : Nat, x = .int (n : Int) ∧ n < 8 ^ 20 ∧ Q (.str (SX.S (Tar.octD n))) H1
theorem pe_fmtO {e sp : Expr} {te : TE} {pos : Pos} (he : PE X e te) (hs : PE X sp (tC (.str "o"))) : PE X (.FormattedValue e (-1) (some sp) pos) (tFmtO te) := by
  refine ⟨fun pins s σ H Q I h => ?_⟩
  refine wpAny_FormattedValue_spec (thn (he.run pins s σ H _ I h) fun v s1 ⟨x, H1, I1, r1, n, ex, hn, q⟩ => ?_)
  subst ex
  refine thn (hs.run pins s1 σ H1 (fun y H2 => y = .str "o" ∧ H2 = H1) I1 ⟨rfl, rfl⟩) fun r s2 ⟨y, H2, I2, r2, ey, eh⟩ => ?_
  subst ey
  subst eh
  obtain ⟨t, rfl⟩ := r1
  obtain ⟨t2, rfl⟩ := r2
  refine ⟨_, t2, rfl, wpAny_formatField_spec (x := SX.S (Tar.octD n)) (by decide) (fun s' => typeIs_int s' _ t) F.slot_int_format F.entry_int_format F.args_int_format_2 (fun u => gives_o n hn t u) ?_ (by decide) ?_⟩
  · exact ⟨.str (SX.S (Tar.octD n)), H2, I2.tok _, ⟨_, rfl⟩, q⟩
  · rw [SX.S_len, sizeLine_eq]
    have := Tar.octD_len (k := 20) (by decide) hn
    omega
/-! ### f(e, .., k = v, ..) -/
structure CalI (P : Program) (w : World) (K : PySem.W.Frag) (mg : Str → Option Value) (base : Heap) (k : Nat) (x : Str) (ks : List Str) (sp : SpI) : Prop where
  ex : ∃ f, mg x = some (.ref f) ∧ PySem.W.keepIn K (.ref f) = true ∧ IniR P w K mg base k f ks sp
def tCallI (m : Nat) (sp : SpI) (t tk : TA) : TE := fun σ H Q => t σ H fun vs H1 => tk σ H1 fun zs H2 => zs.length = m ∧ sp vs zs H2 Q
theorem pe_ci {k j : Nat} {ks : List Str} {sp : SpI} {x : Str} {p pos : Pos} {e : Expr} {es : List Expr} {kws : List Keyword} {t tk : TA} (c : CalI X.prog X.w X.K X.mg X.base k x ks sp) (hr : Room j X.A) (hk : k ≤ j) (hg : Gl X x) (ha : PA X (e :: es) t) (hkw : PK X kws tk)
    (hall : (backToKw pos (keywordEach kws X.env)).all (·.1.isSome) = true := by rfl) (hks : (backToKw pos (keywordEach kws X.env)).filterMap (·.1) = ks := by rfl) (hdb : (x == ("__debug__" : Str)) = false := by decide)
    (he : starEach (e :: es) X.env = (false, eval e X.env) :: starEach es X.env := by rfl) (hpl : ((backTo pos (starEach (e :: es) X.env)).any (·.1) || (backToKw pos (keywordEach kws X.env)).any (·.1.isNone)) = false := by rfl) :
    PE X (.Call (.Name x p) (e :: es) kws pos) (tCallI ks.length sp t tk) := by
  obtain ⟨f, hm, kp, F⟩ := c.ex
  refine ⟨fun pins s σ H Q I h => ?_⟩
  refine wpAny_Call_Name_kw (ld_glob I hg hm ?_ hdb)
  refine PySem.W.callWith_KW (h₀ := X.base) I.ok.mod.kin kp hall (thn (ha.run pos pins s σ H _ I h) fun us s1 ⟨vs, H1, I1, r, q⟩ => ?_) hpl he
  refine thn (hkw.run pos pins s1 σ H1 _ I1 q) fun ws s2 ⟨zs, H2, I2, rz, l2, q2⟩ => ⟨I2.kIn, ?_⟩
  rw [hks]
  refine wpAny_call (codeAny_mono (F X.A X.stack _ _ us ws _ zs _ C8.E0 (hr.mono hk) I2.env0 r rz l2 q2) fun r s' hq' => ?_)
  cases r with
  | error e => exact False.elim hq'
  | ok fl =>
    cases fl with
    | ret u => exact I2.after hq'
    | next => exact False.elim hq'
    | brk => exact False.elim hq'
    | cont => exact False.elim hq'
end
/-- a def with keyword-only parameters, all of them told -/
structure DBI (K : PySem.W.Frag) (mg : Str → Option Value) (x : Str) (st : Stmt) (ps ks : List Str) : Prop where
  ex : ∃ f fd, L2.Fun K x x st f fd ∧ mg x = some (.ref f) ∧ ∀ us ws : List Value, us.length + ks.length = ps.length → ws.length = ks.length → bindArgs fd ⟨us, ks.zip ws⟩ = pure (ps.zip (us ++ ws))
theorem cali_of {P : Program} {w : World} {K : PySem.W.Frag} {mg : Str → Option Value} {base : Heap} {x : Str} {st : Stmt} {N ps ks : List Str} {k : Nat} {sp : SpI} (F : DBI K mg x st ps ks) (S : FnScope N ps (defScope st)) (len : ∀ vs zs H Q, sp vs zs H Q → vs.length + ks.length = ps.length)
    (hbody : ∀ (f : Addr) (cdv : Value) (A : Around) (outer : List Env) (s : Shared) (H : Hp) (vs zs : List V) (Q : VK) (E : XK), Room k (A.deeper (envOfC x (defScope st) s.heap.objs.size f cdv)) → sp vs zs H Q →
      ∃ t, PSs (cxOf L2.CX0 P w K mg base N x (defScope st) f cdv A outer s H E).nox (defBody st) t ∧ t { nx := fun _ H' => Q .non H', rt := Q } (start N (vs ++ zs)) H) : CalI P w K mg base (k + 1) x ks sp := by
  obtain ⟨f, fd, F, hm, b⟩ := F.ex
  have ok := F.ok (P := P) (w := w) (mg := mg) (base := base) (k := k) S (sp := fun l H Q _ => ∃ vs zs, l = vs ++ zs ∧ zs.length = ks.length ∧ sp vs zs H Q) (fun l H Q E h => by
    obtain ⟨vs, zs, rfl, hz, h⟩ := h
    rw [List.length_append, hz]
    exact len vs zs H Q h) fun cdv A outer s H vs Q E hr h => by
    obtain ⟨vs, zs, rfl, hz, h⟩ := h
    exact hbody f cdv A outer s H vs zs Q E hr h
  refine ⟨f, hm, F.kp, fun A outer s H us ws vs zs Q E hr e0 r rz hl h => ?_⟩
  have l1 := len _ _ _ _ h
  exact ok.run A outer s H ⟨us, ks.zip ws⟩ (us ++ ws) (vs ++ zs) Q E hr e0 (BindsTo.of_eq (b us ws (by rw [← r.length]; exact l1) (by rw [← rz.length]; exact hl))) (r.append rz) ⟨vs, zs, rfl, hl, h⟩
end Tl
end

section
set_option Elab.async false
set_option linter.all false
set_option maxRecDepth 100000
set_option maxHeartbeats 4000000
/-! Headers. -/
namespace Tl
open PySem PySem.Spec PyProof.Rows L2 Evl
open Tar (By)
open C8 (Cal Met Mak pe_c pe_mk pe_mt pe_mt0 pe_gc fnScope_by)
section
variable {P : Program} {w : World} {K : PySem.W.Frag} {mg : Str → Option Value} {base : Heap} {a : Ad}
abbrev nm_text_field : List Str := ["text", "width"]
theorem sc_text_field : FnScope nm_text_field ["text", "width"] (defScope s_text_field) := fnScope_by (by decide +kernel)
theorem ev_takeS {σ : L2.St} {H : Hp} {ta : TE} {th : TO} {t : List Nat} {n : Nat} (ha : Ev ta σ H (vS t)) (h2 : EvO th σ H (some (n : Int))) (hz : t.length ≤ 100000) : Ev (tSl rSlS ta tNoPart th) σ H (vS (t.take n)) := fun H1 e Q q =>
  ha H1 e _ fun H2 e2 => h2 H2 (e.trans e2) _ fun H3 e3 => ⟨sS t, rfl, by rw [sS_len, sizeLine_eq]; omega, by
    have z : cutS (sS t) none (some (n : Int)) = sS (t.take n) := by
      unfold cutS
      rw [HT.sIx_nat, show HT.sIx (sS t).length 0 none = 0 from rfl, sS_len, Nat.sub_zero, List.drop_zero]
      show (⟨(t.take (min n t.length)).toArray⟩ : Str) = ⟨(t.take n).toArray⟩
      rw [← List.take_take, List.take_of_length_le (Nat.le_refl t.length)]
    rw [z]
    exact q H3 (e2.trans e3)⟩
theorem ev_enc {σ : L2.St} {H : Hp} {ta : TE} {t : List Nat} (ha : Ev ta σ H (vS t)) (h : ∀ c ∈ t, c < 128) (hz : t.length ≤ 100000) : Ev (tM0 (fun x xs H Q => ∃ a, x = V.str a ∧ xs = [] ∧ PySem.W.KSb.Asc a ∧ a.length ≤ 100000 ∧ Q (V.byt (PySem.W.KSb.enc a)) H) ta) σ H (vB (Tar.enc t)) :=
  ev_m0 ha fun H1 _ Q q => ⟨sS t, rfl, rfl, h, by rw [sS_len]; exact hz, q H1 (Ex.refl H1)⟩
abbrev rTF : List V → Hp → V → Prop := fun vs _ z => ∃ t, vs = [vS t, vN 100] ∧ (∀ c ∈ t, c < 128) ∧ t.length ≤ 100 ∧ z = vB (Tar.txt 100 t)
theorem ok_text_field (T : Txt K mg a) (F : DB K mg "text_field" s_text_field ["text", "width"]) : Cal P w K mg base 1 "text_field" (spV 2 rTF) [] := by
  refine cal_of F sc_text_field (fun _ _ _ _ h => h.1) fun f cdv A outer s H vs Q E hr h => ⟨_, (pss_one (ps_ret (pe_slice sl_byt (pe_op op_add_byt (pe_m0 PySem.F.slot_str_encode PySem.F.type_str_encode mt_encode (pe_slice sl_str (pv 0) po_none (po_some (pv 1)))) (pe_callTy call_bytesN (by rfl) T.b_bytes (by decide +kernel) (pa_cons (pv 1) pa_nil))) po_none (po_some (pv 1))))), ?_⟩
  obtain ⟨_, _, ⟨t, rfl, ha, hn, rfl⟩, k⟩ := h
  refine s_ret ?_ fun H1 e1 => k H1 e1
  have e1 := ev_enc (ev_takeS (n := 100) (ev_var (σ := L2.start nm_text_field [vS t, vN 100]) (i := 0) (H := H) rfl) (eo_some (ev_var (i := 1) rfl)) (by omega)) (fun c hc => ha c (List.mem_of_mem_take hc)) (by rw [List.length_take]; omega)
  rw [List.take_of_length_le hn] at e1
  have e2 := ev_slBto (j := 100) (ev_catB e1 (ev_zeros (n := 100) (ev_var (i := 1) rfl) rfl (by decide)) (by rw [Tar.enc_length, Tar.zs_length]; omega)) (eo_some (ev_var (i := 1) rfl)) (by rw [List.length_append, Tar.enc_length, Tar.zs_length]; omega)
  have e3 : (Tar.enc t ++ Tar.zs 100).take 100 = Tar.txt 100 t := by
    unfold Tar.txt Tar.zs
    rw [List.take_append, Tar.enc_length, List.take_replicate, List.take_of_length_le (by rw [Tar.enc_length]; exact hn), Nat.min_eq_left (by omega)]
  rw [e3] at e2
  exact e2
abbrev nm_magic_field : List Str := []
theorem sc_magic_field : FnScope nm_magic_field [] (defScope s_magic_field) := fnScope_by (by decide +kernel)
abbrev rMg : List V → Hp → V → Prop := fun vs _ z => vs = [] ∧ z = vB Tar.magic
theorem ok_magic_field (T : Txt K mg a) (F : DB K mg "magic_field" s_magic_field []) : Cal P w K mg base 1 "magic_field" (spV 0 rMg) [] := by
  refine cal_of F sc_magic_field (fun _ _ _ _ h => h.1) fun f cdv A outer s H vs Q E hr h => ⟨_, (pss_one (ps_ret (pe_op op_add_byt (pe_op op_add_byt (pe_m0 PySem.F.slot_str_encode PySem.F.type_str_encode mt_encode (pe_gc rfl T.g_MAGIC)) (pe_callTy call_bytesN (by rfl) T.b_bytes (by decide +kernel) (pa_cons pe_int pa_nil))) pe_byt))), ?_⟩
  obtain ⟨_, _, ⟨rfl, rfl⟩, k⟩ := h
  refine s_ret ?_ fun H1 e1 => k H1 e1
  have u : ([117, 115, 116, 97, 114] : List Nat).map Nat.toUInt8 = Tar.enc [117, 115, 116, 97, 114] := rfl
  have e1 := ev_catB (l := Tar.enc [117, 115, 116, 97, 114]) (m := Tar.zs 1) (σ := L2.start nm_magic_field []) (H := H) (ev_enc (t := [117, 115, 116, 97, 114]) (ev_c (v := vS [117, 115, 116, 97, 114])) (by decide) (by decide)) (ev_zeros (n := 1) (ev_c (v := .int 1)) rfl (by decide)) (by decide)
  exact ev_catB (m := [48, 48]) e1 ev_c (by decide)
abbrev nm_sum_of : List Str := ["block"]
theorem sc_sum_of : FnScope nm_sum_of ["block"] (defScope s_sum_of) := fnScope_by (by decide +kernel)
theorem bInts_sum (b : By) : (PySem.W.KBw.bInts b.toArray).sum = (Tar.sumB b : Int) := by
  unfold PySem.W.KBw.bInts Tar.sumB
  induction b with
  | nil => rfl
  | cons x r ih => simp_all
theorem ev_sumB {σ : L2.St} {H : Hp} {ta : TE} {b : By} (ha : Ev ta σ H (vB b)) (h : b.length ≤ 100000) : Ev (tCB (fun xs H Q => ∃ b, xs = [V.byt b] ∧ b.size ≤ 100000 ∧ Q (V.int (PySem.W.KBw.bInts b).sum) H) (tCons ta tNil)) σ H (.int (Tar.sumB b : Int)) :=
  ev_cb (ea_cons ha ea_nil) fun H1 _ Q q => ⟨b.toArray, rfl, by rw [szB]; exact h, by rw [bInts_sum]; exact q H1 (Ex.refl H1)⟩
abbrev rSum : List V → Hp → V → Prop := fun vs _ z => ∃ b : By, vs = [vB b] ∧ b.length ≤ 1000 ∧ 156 ≤ b.length ∧ z = .int ((Tar.sumB b : Int) - (Tar.sumB ((b.drop 148).take 8) : Int) + 256)
theorem ok_sum_of (T : Txt K mg a) (F : DB K mg "sum_of" s_sum_of ["block"]) : Cal P w K mg base 1 "sum_of" (spV 1 rSum) [] := by
  refine cal_of F sc_sum_of (fun _ _ _ _ h => h.1) fun f cdv A outer s H vs Q E hr h => ⟨_, (pss_one (ps_ret (pe_op op_add (pe_op op_sub (pe_callB (call_sumB rfl) (by rfl) T.b_sum (by decide +kernel) (pa_cons (pv 0) pa_nil)) (pe_callB (call_sumB rfl) (by rfl) T.b_sum (by decide +kernel) (pa_cons (pe_slice sl_byt (pv 0) (po_some pe_int) (po_some pe_int)) pa_nil))) (pe_op op_mulW pe_int (pe_callB call_ord (by rfl) T.b_ord (by decide +kernel) (pa_cons pe_str pa_nil)))))), ?_⟩
  obtain ⟨_, _, ⟨b, rfl, hb, hb2, rfl⟩, k⟩ := h
  refine s_ret ?_ fun H1 e1 => k H1 e1
  refine ev_I (ev_I (ev_sumB (ev_var rfl) (by omega)) (ev_sumB (ev_slB (i := 148) (j := 156) (ev_var rfl) (eo_some ev_c) (eo_some ev_c) (by omega) (by decide) (by omega)) (by rw [List.length_take, List.length_drop]; omega))) ?_
  exact ev_IC (g := fun i j => i * j) (i := 8) (j := 32) ev_c (ev_cb (ea_cons ev_c ea_nil) fun H1 _ Q q => ⟨" ", rfl, rfl, q H1 (Ex.refl H1)⟩) (show _ < _ by decide +kernel)
theorem pe_c0 {X : Cx} {k j : Nat} {x : Str} {sp : Sp} {dvs : List V} {p pos : Pos} (c : Cal X.prog X.w X.K X.mg X.base k x sp dvs) (hr : Room j X.A) (hk : k ≤ j) (hg : Gl X x) (hdb : (x == ("__debug__" : Str)) = false := by decide) : PE X (.Call (.Name x p) [] [] pos) (tCall sp dvs C8.E0 tNil) := by
  obtain ⟨f, fd, ps, ds, F, hm, kp, hb, hd⟩ := c.ex
  exact pe_call0 F (hr.mono hk) hg hm kp hb hd C8.pass0 hdb
abbrev nm_octal_field : List Str := ["number", "width"]
theorem sc_octal_field : FnScope nm_octal_field ["number", "width"] (defScope s_octal_field) := fnScope_by (by decide +kernel)
theorem padok {k : Nat} (h : k ≤ 1000) : PadOk (k : Int) = true := by
  unfold PadOk fitsSsize
  have e2 : Builtin.Str.tooLong (k : Int).toNat = false := by
    unfold Builtin.Str.tooLong
    exact decide_eq_false (by rw [sizeLine_eq]; omega)
  rw [e2, decide_eq_false (by omega), decide_eq_false (by omega)]
  rfl
theorem zfill_oct {k n : Nat} (hk : 0 < k) (h : n < 8 ^ k) : Txt.zfill (sS (Tar.octD n)) (k : Int) = sS (Tar.octL k n) := by
  have hl := Tar.octD_len hk h
  rw [← Tar.octD_pad k n hk h]
  unfold Txt.zfill
  rw [sS_len]
  by_cases e : k = (Tar.octD n).length
  · rw [if_pos (by omega), e, Nat.sub_self]
    rfl
  · rw [if_neg (by omega)]
    have e2 : ((k : Int).toNat - (Tar.octD n).length) = k - (Tar.octD n).length := rfl
    rw [e2]
    generalize k - (Tar.octD n).length = m
    have hd := Tar.octD_dig n
    generalize Tar.octD n = l at hd
    unfold PySem.zfilled
    have hp : Builtin.Str.padded (sS l) m 0 48 = sS (List.replicate m 48 ++ l) := by
      unfold Builtin.Str.padded
      show (⟨_⟩ : Str) = ⟨_⟩
      congr 1
      apply Array.ext'
      simp [SX.S]
    cases l with
    | nil => exact hp
    | cons c r =>
      have hc := hd c (.head _)
      show (match some c with | some 43 | some 45 => _ | _ => _) = _
      split
      · rename_i q; cases q; omega
      · rename_i q; cases q; omega
      · exact hp
theorem ev_fmtO {σ : L2.St} {H : Hp} {te : TE} {n : Nat} (h : Ev te σ H (vN n)) (hn : n < 8 ^ 20) : Ev (tFmtO te) σ H (vS (Tar.octD n)) := fun H1 e Q q => h H1 e _ fun H2 e2 => ⟨n, rfl, hn, q H2 e2⟩
theorem ev_zfill {σ : L2.St} {H : Hp} {ta tb : TE} {k n : Nat} (h : Ev ta σ H (vS (Tar.octD n))) (h2 : Ev tb σ H (vN k)) (hk : 0 < k) (hk2 : k ≤ 1000) (hn : n < 8 ^ k) : Ev (tM1 (fun x xs H Q => ∃ (a : Str) (i : Int), x = .str a ∧ xs = [.int i] ∧ PadOk i = true ∧ Q (.str (Txt.zfill a i)) H) ta tb) σ H (vS (Tar.octL k n)) :=
  ev_m1 h h2 fun H1 e1 Q q => ⟨_, _, rfl, rfl, padok hk2, by rw [zfill_oct hk hn]; exact q H1 (Ex.refl H1)⟩
abbrev rOct : List V → Hp → V → Prop := fun vs _ z => ∃ k n, vs = [vN n, vN (k + 1)] ∧ 0 < k ∧ k ≤ 20 ∧ n < 8 ^ k ∧ z = vB (Tar.oct k n)
theorem ok_octal_field (T : Txt K mg a) (F : DB K mg "octal_field" s_octal_field ["number", "width"]) : Cal P w K mg base 1 "octal_field" (spV 2 rOct) [] := by
  refine cal_of F sc_octal_field (fun _ _ _ _ h => h.1) fun f cdv A outer s H vs Q E hr h => ⟨_, (pss_one (ps_ret (pe_op op_add_byt (pe_m0 PySem.F.slot_str_encode PySem.F.type_str_encode mt_encode (pe_m1 PySem.F.slot_str_zfill PySem.F.type_str_zfill mt_zfill (pe_joined1 (pe_fmtO (pv 0) (pe_joined1 pe_str))) (pe_op op_sub (pv 1) pe_int))) (pe_callTy call_bytesN (by rfl) T.b_bytes (by decide +kernel) (pa_cons pe_int pa_nil))))), ?_⟩
  obtain ⟨_, _, ⟨k, n, rfl, hk, hk2, hn, rfl⟩, q⟩ := h
  refine s_ret ?_ fun H1 e1 => q H1 e1
  have hn2 : n < 8 ^ 20 := Nat.lt_of_lt_of_le hn (Nat.pow_le_pow_right (by decide) hk2)
  have e0 : Ev (tOp (rI0 fun i j => .int (i - j)) (tVar 1) (tC (.int 1))) (L2.start nm_octal_field [vN n, vN (k + 1)]) H (vN k) := by
    have e := ev_I (g := fun i j => i - j) (ev_var (σ := L2.start nm_octal_field [vN n, vN (k + 1)]) (H := H) (i := 1) (v := vN (k + 1)) rfl) (ev_c (v := .int 1))
    rwa [show (((k + 1 : Nat) : Int) - 1) = ((k : Nat) : Int) by omega] at e
  have e1 := ev_enc (ev_zfill (ev_fmtO (ev_var (i := 0) rfl) hn2) e0 hk (by omega) hn) (fun c hc => by have := Tar.octL_dig k n c hc; omega) (by rw [Tar.octL_length]; omega)
  exact ev_catB (l := Tar.enc (Tar.octL k n)) (m := [0]) e1 (ev_zeros (n := 1) (ev_c (v := .int 1)) rfl (by decide)) (by rw [Tar.enc_length, Tar.octL_length, List.length_singleton]; omega)
abbrev nm_checksum_field : List Str := ["block"]
theorem sc_checksum_field : FnScope nm_checksum_field ["block"] (defScope s_checksum_field) := fnScope_by (by decide +kernel)
abbrev rCk : List V → Hp → V → Prop := fun vs _ z => ∃ (b : By) (n : Nat), vs = [vB b] ∧ b.length ≤ 1000 ∧ 156 ≤ b.length ∧ (Tar.sumB b : Int) - (Tar.sumB ((b.drop 148).take 8) : Int) + 256 = (n : Int) ∧ n < 8 ^ 6 ∧ z = vB (Tar.ck n)
theorem ok_checksum_field (T : Txt K mg a) (F : DB K mg "checksum_field" s_checksum_field ["block"]) (c_octal_field : Cal P w K mg base 1 "octal_field" (spV 2 rOct) []) (c_sum_of : Cal P w K mg base 1 "sum_of" (spV 1 rSum) []) : Cal P w K mg base 2 "checksum_field" (spV 1 rCk) [] := by
  refine cal_of F sc_checksum_field (fun _ _ _ _ h => h.1) fun f cdv A outer s H vs Q E hr h => ⟨_, (pss_one (ps_ret (pe_op op_add_byt (C8.pe_c c_octal_field hr (by decide) rfl (pa_cons (C8.pe_c c_sum_of hr (by decide) rfl (pa_cons (pv 0) pa_nil)) (pa_cons pe_int pa_nil))) pe_byt))), ?_⟩
  obtain ⟨_, _, ⟨b, n, rfl, h1, h2, h3, h4, rfl⟩, q⟩ := h
  refine s_ret ?_ fun H1 e1 => q H1 e1
  refine ev_catB (l := Tar.oct 6 n) (m := [32]) (ev_callV (ea_cons (ev_callV (z := vN n) (ea_cons (ev_var rfl) ea_nil) rfl fun _ _ => ⟨b, rfl, h1, h2, by rw [h3]⟩) (ea_cons ev_c ea_nil)) rfl fun _ _ => ⟨6, n, rfl, by decide, by decide, h4, rfl⟩) ev_c ?_
  rw [Tar.oct_length]
  decide
abbrev nm_header : List Str := ["kind", "name", "mode", "size", "time", "target", "front", "behind"]
theorem sc_header : FnScope nm_header ["kind", "name", "mode", "size", "time", "target"] (defScope s_header) := fnScope_by (by decide +kernel)
abbrev kwH : List Str := ["mode", "size", "time", "target"]
def spHdr : SpI := fun vs zs H Q => ∃ (kind : Nat) (nm : List Nat) (mo si ti : Nat) (tg : List Nat), vs = [vS [kind], vS nm] ∧ zs = [vN mo, vN si, vN ti, vS tg] ∧ kind < 128 ∧ (∀ c ∈ nm, c < 128) ∧ nm.length ≤ 100 ∧ (∀ c ∈ tg, c < 128) ∧ tg.length ≤ 100 ∧ mo < 8 ^ 7 ∧ si < 8 ^ 11 ∧ ti < 8 ^ 11 ∧
  ∀ H', Ex H H' → Q (vB (Tar.hdr kind nm mo si ti tg)) H'
theorem ok_header (T : Txt K mg a) (F : DBI K mg "header" s_header ["kind", "name", "mode", "size", "time", "target"] kwH) (c_text_field : Cal P w K mg base 1 "text_field" (spV 2 rTF) []) (c_octal_field : Cal P w K mg base 1 "octal_field" (spV 2 rOct) [])
    (c_magic_field : Cal P w K mg base 1 "magic_field" (spV 0 rMg) []) (c_checksum_field : Cal P w K mg base 2 "checksum_field" (spV 1 rCk) []) : CalI P w K mg base 3 "header" kwH spHdr := by
  refine cali_of F sc_header (fun vs zs H Q h => by obtain ⟨_, _, _, _, _, _, rfl, _⟩ := h; rfl) fun f cdv A outer s H vs zs Q E hr h => ⟨_, (pss_cons (ps_set (i := 6) sc_header.nd rfl (Or.inl rfl) (pe_op op_add_byt (pe_op op_add_byt (pe_op op_add_byt (C8.pe_c c_text_field hr (by decide) rfl (pa_cons (pv 1) (pa_cons pe_int pa_nil))) (C8.pe_c c_octal_field hr (by decide) rfl (pa_cons (pv 2) (pa_cons pe_int pa_nil)))) (C8.pe_c c_octal_field hr (by decide) rfl (pa_cons pe_int (pa_cons pe_int pa_nil)))) (C8.pe_c c_octal_field hr (by decide) rfl (pa_cons pe_int (pa_cons pe_int pa_nil)))))
    (pss_cons (ps_set (i := 6) sc_header.nd rfl (Or.inl rfl) (pe_op op_add_byt (pe_op op_add_byt (pv 6) (C8.pe_c c_octal_field hr (by decide) rfl (pa_cons (pv 3) (pa_cons pe_int pa_nil)))) (C8.pe_c c_octal_field hr (by decide) rfl (pa_cons (pv 4) (pa_cons pe_int pa_nil)))))
    (pss_cons (ps_set (i := 7) sc_header.nd rfl (Or.inl rfl) (pe_op op_add_byt (pe_op op_add_byt (pe_op op_add_byt (pe_m0 PySem.F.slot_str_encode PySem.F.type_str_encode mt_encode (pv 0)) (C8.pe_c c_text_field hr (by decide) rfl (pa_cons (pv 5) (pa_cons pe_int pa_nil)))) (pe_c0 c_magic_field hr (by decide) rfl)) (pe_callTy call_bytesN (by rfl) T.b_bytes (by decide +kernel) (pa_cons pe_int pa_nil))))
    (pss_one (ps_ret (pe_op op_add_byt (pe_op op_add_byt (pv 6) (C8.pe_c c_checksum_field hr (by decide) rfl (pa_cons (pe_op op_add_byt (pe_op op_add_byt (pv 6) (pe_callTy call_bytesN (by rfl) T.b_bytes (by decide +kernel) (pa_cons pe_int pa_nil))) (pv 7)) pa_nil))) (pv 7))))))), ?_⟩
  obtain ⟨kind, nm, mo, si, ti, tg, rfl, rfl, hk, hn, hn2, ht, ht2, hm, hs, hti, q⟩ := h
  have tf : ∀ {σ : L2.St} {H : Hp} {ta : TE} {t : List Nat}, Ev ta σ H (vS t) → (∀ c ∈ t, c < 128) → t.length ≤ 100 → Ev (tCall (spV 2 rTF) [] C8.E0 (tCons ta (tCons (tC (.int 100)) tNil))) σ H (vB (Tar.txt 100 t)) := fun e h1 h2 => ev_callV (ea_cons e (ea_cons ev_c ea_nil)) rfl fun _ _ => ⟨_, rfl, h1, h2, rfl⟩
  have o8 : ∀ {σ : L2.St} {H : Hp} {ta : TE} {n : Nat}, Ev ta σ H (vN n) → n < 8 ^ 7 → Ev (tCall (spV 2 rOct) [] C8.E0 (tCons ta (tCons (tC (.int 8)) tNil))) σ H (vB (Tar.oct 7 n)) := fun e h1 => ev_callV (ea_cons e (ea_cons ev_c ea_nil)) rfl fun _ _ => ⟨7, _, rfl, by decide, by decide, h1, rfl⟩
  have o12 : ∀ {σ : L2.St} {H : Hp} {ta : TE} {n : Nat}, Ev ta σ H (vN n) → n < 8 ^ 11 → Ev (tCall (spV 2 rOct) [] C8.E0 (tCons ta (tCons (tC (.int 12)) tNil))) σ H (vB (Tar.oct 11 n)) := fun e h1 => ev_callV (ea_cons e (ea_cons ev_c ea_nil)) rfl fun _ _ => ⟨11, _, rfl, by decide, by decide, h1, rfl⟩
  have z8 : ∀ {σ : L2.St} {H : Hp}, Ev (tC (.int 0)) σ H (vN 0) := ev_c
  refine q_asg (ev_catB (l := Tar.txt 100 nm ++ Tar.oct 7 mo ++ Tar.oct 7 0) (m := Tar.oct 7 0) (ev_catB (l := Tar.txt 100 nm ++ Tar.oct 7 mo) (m := Tar.oct 7 0) (ev_catB (l := Tar.txt 100 nm) (m := Tar.oct 7 mo) (tf (ev_var rfl) hn hn2) (o8 (ev_var rfl) hm) ?_) (o8 z8 (by decide)) ?_) (o8 z8 (by decide)) ?_) fun H1 e1 => ?_
  · simp only [List.length_append, Tar.txt_length hn2, Tar.oct_length]; decide
  · simp only [List.length_append, Tar.txt_length hn2, Tar.oct_length]; decide
  · simp only [List.length_append, Tar.txt_length hn2, Tar.oct_length]; decide
  refine q_asg (v := vB (Tar.front nm mo si ti)) ?_ fun H2 e2 => ?_
  · have e : Tar.front nm mo si ti = Tar.txt 100 nm ++ Tar.oct 7 mo ++ Tar.oct 7 0 ++ Tar.oct 7 0 ++ Tar.oct 11 si ++ Tar.oct 11 ti := by
      unfold Tar.front
      simp only [List.append_assoc]
    rw [e]
    refine ev_catB (l := Tar.txt 100 nm ++ Tar.oct 7 mo ++ Tar.oct 7 0 ++ Tar.oct 7 0 ++ Tar.oct 11 si) (ev_catB (l := Tar.txt 100 nm ++ Tar.oct 7 mo ++ Tar.oct 7 0 ++ Tar.oct 7 0) (ev_var rfl) (o12 (ev_var rfl) hs) ?_) (o12 (ev_var rfl) hti) ?_
    · simp only [List.length_append, Tar.txt_length hn2, Tar.oct_length]; decide
    · simp only [List.length_append, Tar.txt_length hn2, Tar.oct_length]; decide
  refine q_asg (v := vB (Tar.behind kind tg)) ?_ fun H3 e3 => ?_
  · have e : Tar.behind kind tg = Tar.enc [kind] ++ Tar.txt 100 tg ++ Tar.magic ++ Tar.zs 247 := by
      unfold Tar.behind
      simp only [List.append_assoc]
    rw [e]
    have hm8 : Tar.magic.length = 8 := rfl
    refine ev_catB (l := Tar.enc [kind] ++ Tar.txt 100 tg ++ Tar.magic) (ev_catB (l := Tar.enc [kind] ++ Tar.txt 100 tg) (ev_catB (l := Tar.enc [kind]) (ev_enc (ev_var rfl) (fun c hc => by rw [List.mem_singleton.mp hc]; exact hk) (show (1 : Nat) ≤ 100000 by decide)) (tf (ev_var rfl) ht ht2) ?_) (ev_callV ea_nil rfl fun _ _ => ⟨rfl, rfl⟩) ?_) (ev_zeros (n := 247) (ev_c (v := .int 247)) rfl (by decide)) ?_
    · simp only [List.length_append, Tar.txt_length ht2, Tar.enc_length, List.length_singleton]; decide
    · simp only [List.length_append, Tar.txt_length ht2, Tar.enc_length, hm8, List.length_singleton]; decide
    · simp only [List.length_append, Tar.txt_length ht2, Tar.enc_length, hm8, Tar.zs_length, List.length_singleton]; decide
  refine s_ret (v := vB (Tar.hdr kind nm mo si ti tg)) ?_ fun H4 e4 => q H4 (((e1.trans e2).trans e3).trans e4)
  have fl : (Tar.front nm mo si ti).length = 148 := Tar.front_length hn2
  have bl : (Tar.behind kind tg).length = 356 := Tar.behind_length ht2
  have e : Tar.hdr kind nm mo si ti tg = Tar.front nm mo si ti ++ Tar.ck (Tar.ckOf (Tar.front nm mo si ti) (Tar.behind kind tg)) ++ Tar.behind kind tg := by
    unfold Tar.hdr
    rw [List.append_assoc]
  rw [e]
  have cl := Tar.ck_length (Tar.ckOf (Tar.front nm mo si ti) (Tar.behind kind tg))
  refine ev_catB (l := Tar.front nm mo si ti ++ Tar.ck _) (ev_catB (l := Tar.front nm mo si ti) (ev_var rfl) (ev_callV (ea_cons (ev_catB (l := Tar.front nm mo si ti ++ Tar.zs 8) (m := Tar.behind kind tg) (ev_catB (l := Tar.front nm mo si ti) (ev_var rfl) (ev_zeros (n := 8) (ev_c (v := .int 8)) rfl (by decide)) ?_) (ev_var rfl) ?_) ea_nil) rfl fun _ _ => ⟨_, Tar.ckOf (Tar.front nm mo si ti) (Tar.behind kind tg), rfl, ?_, ?_, ?_, Tar.ckOf_lt hn2 ht2, rfl⟩) ?_) (ev_var rfl) ?_
  · rw [fl, Tar.zs_length]; decide
  · rw [List.length_append, fl, bl, Tar.zs_length]; decide
  · rw [List.length_append, List.length_append, fl, bl, Tar.zs_length]; decide
  · rw [List.length_append, List.length_append, fl, bl, Tar.zs_length]; decide
  · have x1 : ((Tar.front nm mo si ti ++ Tar.zs 8 ++ Tar.behind kind tg).drop 148).take 8 = Tar.zs 8 := by
      rw [List.append_assoc, ← fl, List.drop_left]
      exact List.take_left' (Tar.zs_length 8)
    rw [x1, Tar.sumB_append, Tar.sumB_append, Tar.sumB_zs]
    unfold Tar.ckOf
    omega
  · rw [fl, cl]; decide
  · rw [List.length_append, fl, cl, bl]; decide
end
end Tl
end

section
set_option Elab.async false
set_option linter.all false
set_option maxRecDepth 100000
set_option maxHeartbeats 4000000
/-! Headers, read. -/
namespace Tl
open PySem PySem.Spec PyProof.Rows L2 Evl
open Tar (By)
open C8 (Cal Met Mak pe_c pe_mk pe_mt pe_mt0 pe_gc fnScope_by)
section
variable {P : Program} {w : World} {K : PySem.W.Frag} {mg : Str → Option Value} {base : Heap} {a : Ad}
open PySem.W in
theorem bInts_eq (l : By) : KBw.bInts l.toArray = l.map fun c => ((c.toNat : Nat) : Int) := by
  unfold KBw.bInts
  simp
open PySem.W in
theorem at_one (ks : List Int) (i : Nat) : KBf.at? ks [0] i = decide (ks[i]? = some 0) := by
  have e : (ks.drop i).take 1 = ks[i]?.toList := by rw [List.take_one, List.head?_drop]
  show ((ks.drop i).take 1 == [0]) = _
  rw [e]
  cases ks[i]? with
  | none => rfl
  | some x =>
    show ([x] == [(0 : Int)]) = _
    by_cases h : x = 0
    · subst h; rfl
    · rw [decide_eq_false (fun z => h (Option.some.inj z))]
      exact beq_eq_false_iff_ne.mpr fun z => h (List.cons.inj z).1
/-- the codes of a text field -/
def Pr (t : List Nat) : Prop := ∀ c ∈ t, 32 ≤ c ∧ c < 127
theorem Pr.asc {t : List Nat} (h : Pr t) : ∀ c ∈ t, c < 128 := fun c hc => by have := h c hc; omega
theorem enc_get {t : List Nat} (h : Pr t) {i : Nat} (hi : i < t.length) : ((Tar.enc t)[i]?.map fun c => ((c.toNat : Nat) : Int)) = some ((t[i] : Nat) : Int) := by
  have hc := h _ (List.getElem_mem hi)
  have e : (Tar.enc t)[i]? = some (Nat.toUInt8 t[i]) := by
    unfold Tar.enc
    rw [List.getElem?_map, List.getElem?_eq_getElem hi]
    rfl
  rw [e]
  show some (((Nat.toUInt8 t[i]).toNat : Nat) : Int) = _
  rw [Tar.u8_of (by omega)]
open PySem.W in
theorem find_zero {t : List Nat} (h : Pr t) (z : Nat) : KBf.told (KBf.first? (KBw.bInts (Tar.enc t ++ Tar.zs z).toArray) (KBw.bInts (Tar.zs 1).toArray)) = if z = 0 then -1 else (t.length : Int) := by
  rw [bInts_eq, bInts_eq]
  show KBf.told (KBf.first? _ [0]) = _
  have hg : ∀ i, ((Tar.enc t ++ Tar.zs z).map fun c => ((c.toNat : Nat) : Int))[i]? = if hi : i < t.length then some ((t[i] : Nat) : Int) else if i < t.length + z then some 0 else none := fun i => by
    rw [List.getElem?_map]
    by_cases hi : i < t.length
    · rw [dif_pos hi, List.getElem?_append_left (by rw [Tar.enc_length]; exact hi)]
      exact enc_get h hi
    · rw [dif_neg hi, List.getElem?_append_right (by rw [Tar.enc_length]; omega), Tar.enc_length]
      unfold Tar.zs
      by_cases hz : i < t.length + z
      · rw [if_pos hz, List.getElem?_replicate, if_pos (by omega)]
        rfl
      · rw [if_neg hz, List.getElem?_replicate, if_neg (by omega)]
        rfl
  have hn : KBf.places ((Tar.enc t ++ Tar.zs z).map fun c => ((c.toNat : Nat) : Int)) [0] = List.range (t.length + z) := by
    unfold KBf.places
    simp [Tar.enc_length, Tar.zs_length]
  unfold KBf.first?
  rw [hn]
  by_cases e : z = 0
  · subst e
    rw [if_pos rfl]
    have : (List.range (t.length + 0)).find? (KBf.at? ((Tar.enc t ++ Tar.zs 0).map fun c => ((c.toNat : Nat) : Int)) [0]) = none := by
      rw [List.find?_eq_none]
      intro i hi
      have hi' := List.mem_range.mp hi
      rw [at_one, hg, dif_pos (by omega)]
      have hc := h _ (List.getElem_mem (show i < t.length by omega))
      simp; omega
    rw [this]
    rfl
  · rw [if_neg e]
    have : (List.range (t.length + z)).find? (KBf.at? ((Tar.enc t ++ Tar.zs z).map fun c => ((c.toNat : Nat) : Int)) [0]) = some t.length := by
      rw [List.find?_range_eq_some]
      refine ⟨?_, List.mem_range.mpr (by omega), fun i hi => ?_⟩
      · rw [at_one, hg, dif_neg (by omega), if_pos (by omega)]
        rfl
      · rw [at_one, hg, dif_pos hi]
        have hc := h _ (List.getElem_mem hi)
        simp; omega
    rw [this]
    rfl
theorem ev_find {σ : L2.St} {H : Hp} {ta tb : TE} {t : List Nat} {z : Nat} (ha : Ev ta σ H (vB (Tar.enc t ++ Tar.zs z))) (hb : Ev tb σ H (vB (Tar.zs 1))) (h : Pr t) : Ev (tBB (fun x xs H Q => ∃ b c, x = V.byt b ∧ xs = [V.byt c] ∧ Q (V.int (PySem.W.KBf.told (PySem.W.KBf.first? (PySem.W.KBw.bInts b) (PySem.W.KBw.bInts c)))) H) ta (tCons tb tNil)) σ H (.int (if z = 0 then -1 else (t.length : Int))) :=
  ev_bb ha (ea_cons hb ea_nil) fun H1 _ Q q => ⟨_, _, rfl, rfl, by rw [find_zero h]; exact q H1 (Ex.refl H1)⟩
theorem decT_enc {t : List Nat} (h : ∀ c ∈ t, c < 128) : decT (Tar.enc t).toArray = sS t := by
  unfold decT
  have e := Tar.dec_enc (l := t) fun c hc => by have := h c hc; omega
  unfold Tar.dec at e
  show (⟨((Tar.enc t).map UInt8.toNat).toArray⟩ : Str) = _
  rw [e]
theorem ev_dec {σ : L2.St} {H : Hp} {ta tb : TE} {t : List Nat} (ha : Ev ta σ H (vB (Tar.enc t))) (hb : Ev tb σ H (.str "ascii")) (h : ∀ c ∈ t, c < 128) (hz : t.length ≤ 1000) : Ev (tBB (fun x xs H Q => ∃ b, x = V.byt b ∧ xs = [V.str "ascii"] ∧ (∀ p, p < b.size → (b.getD p 0).toNat < 128) ∧ b.size ≤ 100000 ∧ Q (V.str (decT b)) H) ta (tCons tb tNil)) σ H (vS t) :=
  ev_bb ha (ea_cons hb ea_nil) fun H1 _ Q q => ⟨_, rfl, rfl, fun p hp => by
    rw [szB, Tar.enc_length] at hp
    have e : (Tar.enc t).toArray.getD p 0 = Nat.toUInt8 t[p] := by
      rw [Array.getD_eq_getD_getElem?, List.getElem?_toArray]
      unfold Tar.enc
      rw [List.getElem?_map, List.getElem?_eq_getElem hp]
      rfl
    rw [e, Tar.u8_of (by have := h _ (List.getElem_mem hp); omega)]
    exact h _ (List.getElem_mem hp), by rw [szB, Tar.enc_length]; omega, by rw [decT_enc h]; exact q H1 (Ex.refl H1)⟩
abbrev nm_text_of : List Str := ["field", "end", "text", "byte"]
theorem sc_text_of : FnScope nm_text_of ["field"] (defScope s_text_of) := fnScope_by (by decide +kernel)
abbrev rTx : List V → Hp → V → Prop := fun vs _ z => ∃ (t : List Nat) (n : Nat), vs = [vB (Tar.enc t ++ Tar.zs n)] ∧ Pr t ∧ t.length + n ≤ 1000 ∧ z = vS t
theorem ok_text_of (T : Txt K mg a) (F : DB K mg "text_of" s_text_of ["field"]) : Cal P w K mg base 1 "text_of" (spV 1 rTx) [] := by
  refine cal_of F sc_text_of (fun _ _ _ _ h => h.1) fun f cdv A outer s H vs Q E hr h => ⟨_, (pss_cons (ps_set (i := 1) sc_text_of.nd rfl (Or.inl rfl) (pe_bb PySem.W.KBf.slot_find PySem.W.KBf.type_find mt_bfind (pv 0) (pa_cons (pe_callTy call_bytesN (by rfl) T.b_bytes (by decide +kernel) (pa_cons pe_int pa_nil)) pa_nil)))
    (pss_cons (ps_set (i := 2) sc_text_of.nd rfl (Or.inl rfl) (pe_ifExp (pt_cmpR op_lt (pv 1) pe_int (nomark _)) (pv 0) (pe_slice sl_byt (pv 0) po_none (po_some (pv 1)))))
    (pss_cons (ps_if (PW.pt (pw_or (pt_cmpR op_ne (pe_op op_add_byt (pv 2) (pe_callTy call_bytesN (by rfl) T.b_bytes (by decide +kernel) (pa_cons (pe_op op_sub (pe_callB call_len (by rfl) T.b_len PySem.boot_len (pa_cons (pv 0) pa_nil)) (pe_callB call_len (by rfl) T.b_len PySem.boot_len (pa_cons (pv 2) pa_nil))) pa_nil))) (pv 0) (nomark _)) (pw_or1 (pt_not (pt_val (pe_callB (cr_all rfl) (by rfl) T.b_all (by decide +kernel) (pa_cons (pe_lc (own := [("byte", 3)]) (g := (gName 3)) (tt := tYes) rfl sc_text_of.nd (pi_byt (pv 2)) (blkOk_by (own := [("byte", 3)]) (N := nm_text_of) (sc := defScope s_text_of) (by decide +kernel)) (fun _ _ _ _ _ => (pg_name (i := 3) sc_text_of.nd rfl (Or.inl rfl))) (fun _ _ _ _ _ => pts_nil) (fun _ _ _ _ _ => (pe_chain op_le op_lt pe_int (pv 3) pe_int))) pa_nil))))))) (pss_one (ps_ret pe_non)) pss_nil)
    (pss_one (ps_ret (pe_bb PySem.W.FB.slot_bytes_decode PySem.W.FB.type_bytes_decode mt_decode (pv 2) (pa_cons pe_str pa_nil))))))), ?_⟩
  obtain ⟨_, _, ⟨t, n, rfl, hp, hl, rfl⟩, q⟩ := h
  have hlen : (Tar.enc t ++ Tar.zs n).length = t.length + n := by rw [List.length_append, Tar.enc_length, Tar.zs_length]
  refine q_asg (ev_find (ev_var rfl) (ev_zeros (n := 1) (ev_c (v := .int 1)) rfl (by decide)) hp) fun H1 e1 => ?_
  refine q_asg (v := vB (Tar.enc t)) ?_ fun H2 e2 => ?_
  · by_cases e : n = 0
    · subst e
      refine ev_if (b := true) ?_ (fun _ => ?_) (fun z => nomatch z)
      · exact et_is (et_I (g := fun i j => decide (i < j)) (i := if (0 : Nat) = 0 then -1 else (t.length : Int)) (j := 0) (ev_var rfl) ev_c) (by simp)
      refine ev_is (ev_var rfl) ?_
      show vB _ = vB _
      rw [show Tar.zs 0 = [] from rfl, List.append_nil]
    · refine ev_if (b := false) ?_ (fun z => nomatch z) (fun _ => ?_)
      · exact et_is (et_I (g := fun i j => decide (i < j)) (i := if n = 0 then -1 else (t.length : Int)) (j := 0) (ev_var rfl) ev_c) (by rw [if_neg e]; exact decide_eq_false (by omega))
      have h3 := ev_slBto (j := t.length) (l := Tar.enc t ++ Tar.zs n) (ev_var (σ := (L2.start nm_text_of [vB (Tar.enc t ++ Tar.zs n)]).set 1 (some (.int (if n = 0 then -1 else (t.length : Int))))) (H := H1) (i := 0) rfl) (eo_some (ev_is (ev_var (i := 1) rfl) (show V.int (if n = 0 then -1 else (t.length : Int)) = vN t.length by rw [if_neg e]))) (by rw [hlen]; omega)
      rw [List.take_left' (Tar.enc_length t)] at h3
      exact h3
  refine q_when (et_or (a := false) (b := false) (et_is (et_ne (x := vB (Tar.enc t ++ Tar.zs n)) (y := vB (Tar.enc t ++ Tar.zs n)) (ev_catB (ev_var rfl) (ev_zeros (n := n) (ev_I (g := fun i j => i - j) (ev_len8 (ev_var rfl) (by rw [hlen]; omega)) (ev_len8 (ev_var rfl) (by rw [Tar.enc_length]; omega))) ?_ (by omega)) ?_) (ev_var rfl) rfl) (by simp)) fun _ => et_nT (et_B ?_)) (fun h => absurd h (by decide)) fun _ H3 e3 => ?_
  · rw [hlen, Tar.enc_length]
    omega
  · rw [Tar.enc_length, Tar.zs_length]
    omega
  · refine ev_is (ev_allI (fun _ => true) (ei_byt (ev_var rfl)) ?_ ex_fn (fun x => rfl) fun i x H1 H2 hi he hy => ?_) (by simp)
    · show (Tar.enc t).toArray.size ≤ _
      rw [szB, Tar.enc_length]; omega
    · obtain ⟨rfl, rfl⟩ := hy
      rw [szB, Tar.enc_length] at hi
      refine ev_is (ev_chain ev_c (ev_var rfl) ev_c) ?_
      have e : (Tar.enc t).toArray.getD i 0 = Nat.toUInt8 t[i] := by
        rw [Array.getD_eq_getD_getElem?, List.getElem?_toArray]
        unfold Tar.enc
        rw [List.getElem?_map, List.getElem?_eq_getElem hi]
        rfl
      have hc := hp _ (List.getElem_mem hi)
      rw [e, Tar.u8_of (by omega), decide_eq_true (by omega), decide_eq_true (by omega)]
      rfl
  · exact s_ret (ev_dec (ev_var rfl) ev_c hp.asc (by omega)) fun H4 e4 => q H4 (((e1.trans e2).trans e3).trans e4)
end
end Tl
end

section
set_option Elab.async false
set_option linter.all false
set_option maxRecDepth 100000
set_option maxHeartbeats 4000000
/-! Headers, read: numbers, names, kinds. -/
namespace Tl
open PySem PySem.Spec PyProof.Rows L2 Evl
open Tar (By)
open C8 (Cal Met Mak pe_c pe_mk pe_mt pe_mt0 pe_gc fnScope_by)
section
variable {P : Program} {w : World} {K : PySem.W.Frag} {mg : Str → Option Value} {base : Heap} {a : Ad}
theorem et_isN {σ : L2.St} {H : Hp} {ta : TE} {x : V} (h : Ev ta σ H x) : EvT (tTest (tOp (fun x y H Q => y = .non ∧ Q (.bl (decide (x = .non))) H) ta (tC .non))) σ H (decide (x = .non)) :=
  et_test (ev_op h ev_c (rv_val fun H1 _ Q q => ⟨rfl, q⟩))
theorem ev_notN {σ : L2.St} {H : Hp} {ta : TE} {x : V} (h : Ev ta σ H x) : Ev (tOp (fun x y H Q => y = .non ∧ Q (.bl (!decide (x = .non))) H) ta (tC .non)) σ H (.bl (!decide (x = .non))) :=
  ev_op h ev_c (rv_val fun H1 _ Q q => ⟨rfl, q⟩)
/-! ### a header that is right -/
structure HdOk (kind : Nat) (nm : List Nat) (mo si ti : Nat) (tg : List Nat) : Prop where
  hnm : nm ∈ labels
  hkind : kind ∈ [48, 83, 53, 50, 49]
  hmo : mo ≤ 4095
  hti : ti ≤ 8589934591
  htg : if kind = 50 ∨ kind = 49 then tg ∈ names else tg = []
  hsi : si ≤ 4608
  h48 : kind = 48 → si ≤ 4096
  h83 : kind = 83 → 512 ≤ si
  hzz : kind ≠ 48 → kind ≠ 83 → si = 0
theorem names_pr : ∀ l ∈ names, (l.all fun c => decide (32 ≤ c) && decide (c < 127)) = true := by decide +kernel
theorem names_Pr {l : List Nat} (h : l ∈ names) : Pr l := fun c hc => by
  have := List.all_eq_true.mp (names_pr l h) c hc
  simpa using this
section
variable {kind mo si ti : Nat} {nm tg : List Nat}
theorem HdOk.nl (h : HdOk kind nm mo si ti tg) : nm.length ≤ 20 := (names_len (labels_names h.hnm)).2
theorem HdOk.tp (h : HdOk kind nm mo si ti tg) : Pr tg ∧ tg.length ≤ 20 := by
  have := h.htg
  split at this
  · exact ⟨names_Pr this, (names_len this).2⟩
  · subst this
    exact ⟨fun c hc => (nomatch hc), Nat.zero_le _⟩
theorem HdOk.len (h : HdOk kind nm mo si ti tg) : (Tar.hdr kind nm mo si ti tg).length = 512 := Tar.hdr_length (by have := h.nl; omega) (by have := h.tp.2; omega)
theorem HdOk.kp (h : HdOk kind nm mo si ti tg) : Pr [kind] := fun c hc => by
  have := h.hkind
  rw [List.mem_singleton.mp hc]
  simp at this
  omega
end
def HdB (vs : List V) (kind : Nat) (nm : List Nat) (mo si ti : Nat) (tg : List Nat) : Prop := vs = [vB (Tar.hdr kind nm mo si ti tg)] ∧ HdOk kind nm mo si ti tg
abbrev nm_number_of : List Str := ["field", "digits", "sign"]
theorem sc_number_of : FnScope nm_number_of ["field"] (defScope s_number_of) := fnScope_by (by decide +kernel)
abbrev rNum : List V → Hp → V → Prop := fun vs _ z => ∃ k n, vs = [vB (Tar.oct k n)] ∧ 0 < k ∧ k ≤ 20 ∧ n < 8 ^ k ∧ z = vN n
theorem octL_in {k n : Nat} : ∀ c ∈ Tar.octL k n, c ∈ ("01234567" : Str).cps.toList := fun c hc => by
  have h := Tar.octL_dig k n c hc
  show c ∈ [48, 49, 50, 51, 52, 53, 54, 55]
  simp
  omega
theorem ok_number_of (T : Txt K mg a) (F : DB K mg "number_of" s_number_of ["field"]) (c_text_of : Cal P w K mg base 1 "text_of" (spV 1 rTx) []) : Cal P w K mg base 2 "number_of" (spV 1 rNum) [] := by
  refine cal_of F sc_number_of (fun _ _ _ _ h => h.1) fun f cdv A outer s H vs Q E hr h => ⟨_, (pss_cons (ps_set (i := 1) sc_number_of.nd rfl (Or.inl rfl) (C8.pe_c c_text_of hr (by decide) rfl (pa_cons (pv 0) pa_nil)))
    (pss_cons (ps_if (PW.pt (pw_or (pt_cmpR op_isN (pv 1) pe_non (nomark _)) (pw_or (pt_cmpR op_ne (pe_callB call_len (by rfl) T.b_len PySem.boot_len (pa_cons (pv 1) pa_nil)) (pe_op op_sub (pe_callB call_len (by rfl) T.b_len PySem.boot_len (pa_cons (pv 0) pa_nil)) pe_int) (nomark _)) (pw_or1 (pt_not (pt_val (pe_callB (cr_all rfl) (by rfl) T.b_all (by decide +kernel) (pa_cons (pe_lc (own := [("sign", 2)]) (g := (gName 2)) (tt := tYes) rfl sc_number_of.nd (pi_str (pv 1)) (blkOk_by (own := [("sign", 2)]) (N := nm_number_of) (sc := defScope s_number_of) (by decide +kernel)) (fun _ _ _ _ _ => (pg_name (i := 2) sc_number_of.nd rfl (Or.inl rfl))) (fun _ _ _ _ _ => pts_nil) (fun _ _ _ _ _ => (pe_cmpR op_in_sign (pv 2) pe_str (by rfl)))) pa_nil)))))))) (pss_one (ps_ret pe_non)) pss_nil)
    (pss_one (ps_ret (pe_callTy call_int_oct (by rfl) T.b_int (by decide +kernel) (pa_cons (pv 1) (pa_cons pe_int pa_nil))))))), ?_⟩
  obtain ⟨_, _, ⟨k, n, rfl, hk, hk2, hn, rfl⟩, q⟩ := h
  have hl := Tar.octL_length k n
  refine q_asg (v := vS (Tar.octL k n)) (ev_callV (ea_cons (ev_var rfl) ea_nil) rfl fun _ _ => ⟨Tar.octL k n, 1, rfl, fun c hc => by have := Tar.octL_dig k n c hc; omega, by omega, rfl⟩) fun H1 e1 => ?_
  refine q_when (et_or (a := false) (b := false) (et_is (et_isN (ev_var rfl)) (decide_eq_false fun z => nomatch z)) fun _ => et_or (a := false) (b := false) (et_is (et_ne (x := vN k) (y := vN k) (ev_is (ev_lenS (ev_var rfl) (by rw [sS_len]; omega)) (by rw [sS_len, hl])) (ev_is (ev_I (g := fun i j => i - j) (ev_len8 (ev_var rfl) (by rw [Tar.oct_length]; omega)) ev_c) ?_) rfl) (by simp)) fun _ => et_nT (et_B ?_)) (fun h => absurd h (by decide)) fun _ H2 e2 => ?_
  · rw [Tar.oct_length]
    show V.int (((k + 1 : Nat) : Int) - 1) = V.int ((k : Nat) : Int)
    congr 1
    omega
  · refine ev_is (ev_allI (fun _ => true) (ei_str (ev_var rfl)) ?_ ex_str (fun x => rfl) fun i x H1 H2 hi he hy => ?_) (by simp)
    · show (Tar.octL k n).toArray.size ≤ _
      rw [List.size_toArray]; omega
    · obtain ⟨_, c, hc, rfl⟩ := hy
      refine ev_is (ev_op (ev_var rfl) ev_c (rv_val fun H3 _ Q q => ⟨c, _, rfl, rfl, q⟩)) ?_
      have hc' : (Tar.octL k n)[i]? = some c := by
        have : (Tar.octL k n).toArray[i]? = some c := hc
        simpa using this
      rw [decide_eq_true (octL_in c (List.mem_of_getElem? hc'))]
  · refine s_ret (ev_cb (ea_cons (ev_var rfl) (ea_cons ev_c ea_nil)) fun H3 _ Q q => ⟨Tar.octL k n, rfl, ?_, by omega, fun c hc => Tar.octL_dig k n c hc, ?_⟩) fun H3 e3 => q H3 ((e1.trans e2).trans e3)
    · intro h0
      rw [h0] at hl
      simp at hl
      omega
    · rw [Tar.octV_octL k n hn]
      exact q H3 (Ex.refl H3)
abbrev nm_kind_of : List Str := ["block"]
theorem sc_kind_of : FnScope nm_kind_of ["block"] (defScope s_kind_of) := fnScope_by (by decide +kernel)
abbrev rKd : List V → Hp → V → Prop := fun vs _ z => ∃ kind nm mo si ti tg, HdB vs kind nm mo si ti tg ∧ z = vS [kind]
theorem ev_orS {σ : L2.St} {H : Hp} {ta tb : TE} {t : List Nat} (h : Ev ta σ H (vS t)) (ht : t ≠ []) (hz : t.length ≤ 1000) : Ev (tOrT K ta tb) σ H (vS t) := fun H1 e Q q => h H1 e _ fun H2 e2 => ⟨true, ⟨by rw [sS_len, sizeLine_eq]; omega, by
  rw [sS_len]
  cases t with
  | nil => exact absurd rfl ht
  | cons c r =>
    symm
    exact bne_iff_ne.mpr (by rw [List.length_cons]; omega)⟩, q H2 e2⟩
theorem ok_kind_of (T : Txt K mg a) (F : DB K mg "kind_of" s_kind_of ["block"]) (c_text_of : Cal P w K mg base 1 "text_of" (spV 1 rTx) []) : Cal P w K mg base 2 "kind_of" (spV 1 rKd) [] := by
  refine cal_of F sc_kind_of (fun _ _ _ _ h => h.1) fun f cdv A outer s H vs Q E hr h => ⟨_, (pss_one (ps_ret (pe_orT (C8.pe_c c_text_of hr (by decide) rfl (pa_cons (pe_slice sl_byt (pv 0) (po_some pe_int) (po_some pe_int)) pa_nil)) (pe_one pe_str)))), ?_⟩
  obtain ⟨_, _, ⟨kind, nm, mo, si, ti, tg, ⟨rfl, hh⟩, rfl⟩, q⟩ := h
  refine s_ret (ev_orS (ev_callV (ea_cons (ev_slB (i := 156) (j := 157) (ev_var rfl) (eo_some ev_c) (eo_some ev_c) (by rw [hh.len]; decide) (by decide) (by rw [hh.len]; decide)) ea_nil) rfl fun _ _ => ⟨[kind], 0, ?_, hh.kp, by simp, rfl⟩) (by simp) (show (1 : Nat) ≤ 1000 by decide)) fun H1 e1 => q H1 e1
  rw [show ((Tar.hdr kind nm mo si ti tg).drop 156).take (157 - 156) = Tar.enc [kind] from Tar.f_kind (by have := hh.nl; omega)]
  rfl
abbrev nm_name_of : List Str := ["block"]
theorem sc_name_of : FnScope nm_name_of ["block"] (defScope s_name_of) := fnScope_by (by decide +kernel)
abbrev rNm : List V → Hp → V → Prop := fun vs _ z => ∃ kind nm mo si ti tg, HdB vs kind nm mo si ti tg ∧ z = vS nm
theorem ok_name_of (T : Txt K mg a) (F : DB K mg "name_of" s_name_of ["block"]) (c_text_of : Cal P w K mg base 1 "text_of" (spV 1 rTx) []) : Cal P w K mg base 2 "name_of" (spV 1 rNm) [] := by
  refine cal_of F sc_name_of (fun _ _ _ _ h => h.1) fun f cdv A outer s H vs Q E hr h => ⟨_, (pss_one (ps_ret (C8.pe_c c_text_of hr (by decide) rfl (pa_cons (pe_slice sl_byt (pv 0) (po_some pe_int) (po_some pe_int)) pa_nil)))), ?_⟩
  obtain ⟨_, _, ⟨kind, nm, mo, si, ti, tg, ⟨rfl, hh⟩, rfl⟩, q⟩ := h
  refine s_ret (ev_callV (ea_cons (ev_slB (i := 0) (j := 100) (ev_var rfl) (eo_some ev_c) (eo_some ev_c) (by rw [hh.len]; decide) (by decide) (by rw [hh.len]; decide)) ea_nil) rfl fun _ _ => ⟨nm, 100 - nm.length, ?_, names_Pr (labels_names hh.hnm), by have := hh.nl; omega, rfl⟩) fun H1 e1 => q H1 e1
  rw [show ((Tar.hdr kind nm mo si ti tg).drop 0).take (100 - 0) = Tar.txt 100 nm from Tar.f_name (by have := hh.nl; omega)]
  rfl
abbrev nm_target_of : List Str := ["block"]
theorem sc_target_of : FnScope nm_target_of ["block"] (defScope s_target_of) := fnScope_by (by decide +kernel)
abbrev rTg : List V → Hp → V → Prop := fun vs _ z => ∃ kind nm mo si ti tg, HdB vs kind nm mo si ti tg ∧ z = vS tg
theorem ok_target_of (T : Txt K mg a) (F : DB K mg "target_of" s_target_of ["block"]) (c_text_of : Cal P w K mg base 1 "text_of" (spV 1 rTx) []) : Cal P w K mg base 2 "target_of" (spV 1 rTg) [] := by
  refine cal_of F sc_target_of (fun _ _ _ _ h => h.1) fun f cdv A outer s H vs Q E hr h => ⟨_, (pss_one (ps_ret (C8.pe_c c_text_of hr (by decide) rfl (pa_cons (pe_slice sl_byt (pv 0) (po_some pe_int) (po_some pe_int)) pa_nil)))), ?_⟩
  obtain ⟨_, _, ⟨kind, nm, mo, si, ti, tg, ⟨rfl, hh⟩, rfl⟩, q⟩ := h
  refine s_ret (ev_callV (ea_cons (ev_slB (i := 157) (j := 257) (ev_var rfl) (eo_some ev_c) (eo_some ev_c) (by rw [hh.len]; decide) (by decide) (by rw [hh.len]; decide)) ea_nil) rfl fun _ _ => ⟨tg, 100 - tg.length, ?_, hh.tp.1, by have := hh.tp.2; omega, rfl⟩) fun H1 e1 => q H1 e1
  rw [show ((Tar.hdr kind nm mo si ti tg).drop 157).take (257 - 157) = Tar.txt 100 tg from Tar.f_target (by have := hh.nl; omega) (by have := hh.tp.2; omega)]
  rfl
/-! ### {k: v for .. in ..} over a tuple -/
def dcK (ks : Nat → Key) (zs : Nat → V) : Nat → List (Key × V)
  | 0 => []
  | i + 1 => putK (dcK ks zs i) (ks i) (zs i)
theorem dcK_len (ks : Nat → Key) (zs : Nat → V) : ∀ i, (dcK ks zs i).length ≤ i
  | 0 => Nat.le_refl _
  | i + 1 => Nat.le_trans (length_putK _ _ _) (Nat.succ_le_succ (dcK_len ks zs i))
theorem ep_dc {σ : L2.St} {H : Hp} {wi : TI} {g : TG} {tk tv : TE} {vs : List Nat} {xs : List V} (ks : Nat → Key) (zs : Nat → V) (hi : EvI wi σ H xs.length (YAt xs)) (hn : xs.length ≤ 1000)
    (turn : ∀ i x H1, xs[i]? = some x → Ex H H1 → ∃ σ2 : L2.St, (∀ Kk : L2.St → Hp → Prop, (∀ H3, Ex H1 H3 → Kk σ2 H3) → g x (wipe σ vs) H1 Kk) ∧ wipe σ2 vs = wipe σ vs ∧ Ev tk σ2 H1 (kV (ks i)) ∧ Ev tv σ2 H1 (zs i)) :
    EvP (tDc wi g tYes tk tv vs) σ H (fun v H' => ∃ p, v = .ref p ∧ H p = none ∧ H' p = some (.dK (dcK ks zs xs.length))) := fun H0 e0 Q q =>
  hi H0 e0 _ fun J G H1 e1 wk hG stay D hD => by
    refine ⟨fun i m H' => m = xs.length - i ∧ i ≤ xs.length ∧ Ex H1 H' ∧ H' D = some (.dK (dcK ks zs i)), ⟨xs.length, by simp, Nat.zero_le _, Ex.new hD, upd_same⟩, ?_⟩
    rintro i m H' ⟨rfl, hle, e2, hD2⟩
    have hG2 := stay D H1 H' hD hG e2
    by_cases hlt : i < xs.length
    · refine .inr ⟨wk.goes i H' hlt hG2, fun H2 => i + 1 ≤ xs.length ∧ Ex H1 H2 ∧ H2 D = some (.dK (dcK ks zs (i + 1))), fun H2 p => ⟨xs.length - (i + 1), by omega, rfl, p.1, p.2.1, p.2.2⟩, fun x H2 y => ?_⟩
      obtain ⟨rfl, hx⟩ := wk.yields i H' x H2 hlt hG2 y
      obtain ⟨σ2, h1, h2, h3, h4⟩ := turn i x H2 hx ((e0.trans e1).trans e2)
      refine h1 _ fun H3 e3 => ⟨h2, ?_⟩
      show tk σ2 H3 _
      refine h3 H3 e3 _ fun H4 e4 => h4 H4 (e3.trans e4) _ fun H5 e5 => ⟨dcK ks zs i, ks i, rfl, e5 _ _ (e4 _ _ (e3 _ _ hD2)), ?_, hlt, ?_, upd_same⟩
      · have := dcK_len ks zs i
        rw [sizeLine_eq]
        omega
      · exact Ex.mut (((e2.trans e3).trans e4).trans e5) hD
    · have hi : i = xs.length := by omega
      subst hi
      exact .inl ⟨wk.stops H' hG2, q _ H' (e1.trans e2) ⟨D, rfl, fresh_back (e0.trans e1) hD, hD2⟩⟩
/-- the table NUMBERS -/
structure NumF (K : PySem.W.Frag) (a : Ad) : Prop where
  num : ∀ H, SqT K H a.aNUM [.ref a.nMode, .ref a.nOwner, .ref a.nGroup, .ref a.nSize, .ref a.nTime]
  mode : ∀ H, SqT K H a.nMode (numRow "mode" 100 8)
  owner : ∀ H, SqT K H a.nOwner (numRow "owner" 108 8)
  group : ∀ H, SqT K H a.nGroup (numRow "group" 116 8)
  size : ∀ H, SqT K H a.nSize (numRow "size" 124 12)
  time : ∀ H, SqT K H a.nTime (numRow "time" 136 12)
def numKs (mo si ti : Nat) : List (Key × V) := [(.inr "mode", vN mo), (.inr "owner", vN 0), (.inr "group", vN 0), (.inr "size", vN si), (.inr "time", vN ti)]
abbrev nm_numbers_of : List Str := ["block", "field", "begin", "width"]
theorem sc_numbers_of : FnScope nm_numbers_of ["block"] (defScope s_numbers_of) := fnScope_by (by decide +kernel)
abbrev rNums : List V → Hp → (V → Hp → Prop) → Prop := fun vs H Pz => ∃ kind nm mo si ti tg, HdB vs kind nm mo si ti tg ∧ ∀ p H', H p = none → H' p = some (.dK (numKs mo si ti)) → Pz (.ref p) H'
theorem ok_numbers_of (T : Txt K mg a) (N : NumF K a) (F : DB K mg "numbers_of" s_numbers_of ["block"]) (c_number_of : Cal P w K mg base 2 "number_of" (spV 1 rNum) []) : Cal P w K mg base 3 "numbers_of" (spP 1 rNums) [] := by
  refine cal_of F sc_numbers_of (fun _ _ _ _ h => h.1) fun f cdv A outer s H vs Q E hr h => ⟨_, (pss_one (ps_ret (pe_dc (own := [("field", 1), ("begin", 2), ("width", 3)]) (g := (gTup K 3 (gCons (gName 1) (gCons (gName 2) (gCons (gName 3) gNil))))) (tt := tYes) rfl sc_numbers_of.nd (pi_tup (pe_gc rfl T.g_NUMBERS)) (blkOk_by (own := [("field", 1), ("begin", 2), ("width", 3)]) (N := nm_numbers_of) (sc := defScope s_numbers_of) (by decide +kernel)) (fun _ _ _ _ _ => (pg_tup rfl (pgs_cons (pg_name (i := 1) sc_numbers_of.nd rfl (Or.inl rfl)) (pgs_cons (pg_name (i := 2) sc_numbers_of.nd rfl (Or.inl rfl)) (pgs_cons (pg_name (i := 3) sc_numbers_of.nd rfl (Or.inl rfl)) pgs_nil))))) (fun _ _ _ _ _ => pts_nil) (fun _ _ _ _ _ => (pv 1)) (fun _ _ _ _ _ => (C8.pe_c c_number_of hr (by decide) rfl (pa_cons (pe_slice sl_byt (pv 0) (po_some (pv 2)) (po_some (pe_op op_add (pv 2) (pv 3)))) pa_nil)))))), ?_⟩
  obtain ⟨_, _, ⟨kind, nm, mo, si, ti, tg, ⟨rfl, hh⟩, hP⟩, q⟩ := h
  have nl : nm.length ≤ 100 := by have := hh.nl; omega
  have one : ∀ {H1 : Hp} {T2 : Addr} {fl : Str} {b n k : Nat} {m : Nat}, SqT K H1 T2 (numRow fl b n) → Tar.sl (Tar.hdr kind nm mo si ti tg) b (b + n) = Tar.oct k m → 0 < k → k ≤ 20 → m < 8 ^ k → b + n ≤ 512 →
      ∃ σ2 : L2.St, (∀ Kk : L2.St → Hp → Prop, (∀ H3, Ex H1 H3 → Kk σ2 H3) → gTup K 3 (gCons (gName 1) (gCons (gName 2) (gCons (gName 3) gNil))) (.ref T2) (wipe (L2.start nm_numbers_of [vB (Tar.hdr kind nm mo si ti tg)]) [1, 2, 3]) H1 Kk) ∧ wipe σ2 [1, 2, 3] = wipe (L2.start nm_numbers_of [vB (Tar.hdr kind nm mo si ti tg)]) [1, 2, 3] ∧ Ev (tVar 1) σ2 H1 (.str fl) ∧
        Ev (tCall (spV 1 rNum) [] C8.E0 (tCons (tSl rSlB (tVar 0) (tPart (tVar 2)) (tPart (tOp (rI0 fun i j => .int (i + j)) (tVar 2) (tVar 3)))) tNil)) σ2 H1 (vN m) := fun {H1 T2 fl b n k m} hT hs h1 h2 h3 h4 => by
    refine ⟨[some (vB (Tar.hdr kind nm mo si ti tg)), some (.str fl), some (vN b), some (vN n)], fun Kk hk => ⟨_, _, rfl, hT, rfl, _, _, rfl, _, _, rfl, _, _, rfl, rfl, hk _ (Ex.refl _)⟩, rfl, ev_var rfl, ?_⟩
    refine ev_callV (ea_cons (ev_slB (i := b) (j := b + n) (ev_var rfl) (eo_some (ev_var rfl)) (eo_some (ev_is (ev_I (g := fun i j => i + j) (ev_var rfl) (ev_var rfl)) ?_)) (by rw [hh.len]; omega) (by omega) (by rw [hh.len]; decide)) ea_nil) rfl fun _ _ => ⟨k, m, ?_, h1, h2, h3, rfl⟩
    · show V.int ((b : Int) + (n : Int)) = V.int ((b + n : Nat) : Int)
      congr 1
    · rw [← hs]
      rfl
  refine s_retP (ep_dc (fun i => (numKs mo si ti)[i]?.elim (.inl 0) (·.1)) (fun i => (numKs mo si ti)[i]?.elim .non (·.2)) (ei_tup (p := a.aNUM) ev_c (N.num H)) (show (5 : Nat) ≤ 1000 by decide) ?_) fun x H1 e1 p => by
    obtain ⟨p, rfl, h1, h2⟩ := p
    exact q _ H1 e1 (hP p H1 h1 h2)
  intro i x H1 hx e1
  have hmo := hh.hmo
  have hti := hh.hti
  have hsi := hh.hsi
  rcases i with _ | _ | _ | _ | _ | i
  · cases hx
    exact one (N.mode H1) (Tar.f_mode nl) (by decide) (by decide) (by omega) (by decide)
  · cases hx
    exact one (N.owner H1) (Tar.f_owner nl) (by decide) (by decide) (by decide) (by decide)
  · cases hx
    exact one (N.group H1) (Tar.f_group nl) (by decide) (by decide) (by decide) (by decide)
  · cases hx
    exact one (N.size H1) (Tar.f_size nl) (by decide) (by decide) (by omega) (by decide)
  · cases hx
    exact one (N.time H1) (Tar.f_time nl) (by decide) (by decide) (by omega) (by decide)
  · cases hx
end
end Tl
end

section
set_option Elab.async false
set_option linter.all false
set_option maxRecDepth 100000
set_option maxHeartbeats 4000000
/-! Headers, read: what is wrong. -/
namespace Tl
open PySem PySem.Spec PyProof.Rows L2 Evl
open Tar (By)
open C8 (Cal Met Mak pe_c pe_mk pe_mt pe_mt0 pe_gc fnScope_by)
/-! ### d.get(k, x), d a dict of the module -/
def tKGet2 (K : PySem.W.Frag) (w : World) (a : Addr) (td ty tx : TE) : TE := fun σ H Q => td σ H fun x H1 => x = .ref a ∧ (∃ es n, K.lookup a = some ⟨.type "dict", none, .dict es n, #[]⟩ ∧ PySem.W.KeysLit w.params es.toList) ∧ ty σ H1 fun y H2 => tx σ H2 fun z H3 => ∃ k, y = .str k ∧
  ((∃ v, KDct K w a k v ∧ Q v H3) ∨ (KMiss K w a k ∧ Q z H3))
section
variable {X : Cx} {o e f : Expr} {apos cpos : Pos} {td ty tx : TE} {a : Addr}
theorem pe_kget2 (hd : (a == sysModules) = false) (ho : PE X o td) (he : PE X e ty) (hf : PE X f tx) (m : M2 X o "get" apos e f cpos) : PE X (.Call (.Attribute o "get" apos) [e, f] [] cpos) (tKGet2 X.K X.w a td ty tx) := by
  refine ⟨fun pins s σ H Q I h => ?_⟩
  refine wpAny_Call_method m.base m.few m.line PySem.F.plainAttrs_dict PySem.F.slot_dict_get PySem.F.type_dict_get (thn (ho.run pins s σ H _ I h) fun u s1 ⟨x, H1, I1, rx, ex, ⟨es, n, hl, hk⟩, q1⟩ => ?_)
  subst ex
  obtain rfl : u = Value.ref a := rx
  have mp := PySem.W.mapOf_K (prog := X.prog) (w := X.w) I1.kIn hl hk
  refine ⟨mp.typeIs, fun b q => ⟨_, by cases q; exact I1.kIn _ _ hl, rfl⟩, ?_⟩
  rw [m.trees]
  refine Calls.callWith_builtin rfl (Calls.evalArgs_plain (Calls.spliced_cons (thn (he.run pins s1 σ H1 _ I1 q1) fun iv s2 ⟨y, H2, I2, ry, q2⟩ =>
    Calls.spliced_cons (thn (hf.run pins s2 σ H2 _ I2 q2) fun fv s3 ⟨z, H3, I3, rz, k, ey, q3⟩ => Calls.spliced_nil ?_))))
  subst ey
  obtain ⟨t, rfl⟩ := ry
  have mp3 := PySem.W.mapOf_K (prog := X.prog) (w := X.w) I3.kIn hl hk
  refine call_meetsIn PySem.F.slot_dict_get mp3.typeIs PySem.F.entry_dict_get (PySem.F.args_dict_get_3 _ _ _) (meets_dict_get_default (strKind X.prog X.w) a (strKind_is X.prog X.w k t) hd fv) ⟨_, mp3, ?_⟩
  rcases q3 with ⟨v, ⟨es', n', u, hl', hk', e', ru⟩, q3⟩ | ⟨⟨es', n', hl', hk', _, e'⟩, q3⟩
  · rw [hl] at hl'
    cases hl'
    have e2 := PySem.W.find_K hl e'
    rw [show PySem.findBy Value.isStrOf es k = some u from e2]
    exact ⟨v, H3, I3.tok _, ru, q3⟩
  · rw [hl] at hl'
    cases hl'
    have e2 := PySem.W.find_K hl e'
    rw [show PySem.findBy Value.isStrOf es k = none from e2]
    exact ⟨z, H3, I3.tok _, rz, q3⟩
/-! ### a new dict, locked -/
def tLockD (te : TE) : TE := fun σ H Q => te σ H fun x H1 => ∃ d kvs, x = .ref d ∧ H1 d = some (.dK kvs) ∧ ∀ od, Q (.ref d) (upd H1 d (.frz od (.dK kvs)))
theorem pe_lockD {te : TE} (he : PE X e te) : PE X e (tLockD te) := ⟨fun pins s σ H Q I h => thn (he.run pins s σ H _ I h) fun u s1 ⟨x, H1, I1, rx, d, kvs, ex, hd, q⟩ => by
  subst ex
  obtain ⟨od, I2⟩ := I1.lock hd True.intro
  exact ⟨.ref d, _, I2, rx, q od⟩⟩
end
section
variable {P : Program} {w : World} {K : PySem.W.Frag} {mg : Str → Option Value} {base : Heap} {a : Ad}
def LongE (H : Hp) (v : V) : Prop := ∃ d, v = .ref d ∧ H d = some (.dK [])
theorem q_whenW {D : Ends} {c : TTw} {tu tz : TS} {σ σ1 : L2.St} {H : Hp} (h : ∀ Qk : Bool → L2.St → Hp → Prop, (∀ H1, Ex H H1 → Qk false σ1 H1) → c σ H Qk) (k : ∀ H1, Ex H H1 → tz D σ1 H1) : tSeq (tIfW c tu tNext) tz D σ H :=
  h _ fun H1 e => by
    show (if false = true then _ else _)
    rw [if_neg Bool.false_ne_true]
    exact k H1 e
theorem w_notN {te : TE} {i : Nat} {σ : L2.St} {H : Hp} (h : Ev te σ H .non) (Qk : Bool → L2.St → Hp → Prop) (q : ∀ H1, Ex H H1 → Qk false (σ.set i (some .non)) H1) : wCmp (fun x y H Q => y = .non ∧ Q (.bl (!decide (x = .non))) H) (wNm (wE te) i) (tC .non) σ H Qk :=
  h H (Ex.refl H) _ fun H1 e => ⟨rfl, false, by rw [decide_eq_true rfl]; rfl, q H1 e⟩
theorem et_dinF {σ : L2.St} {H : Hp} {ta tb : TE} {d : Addr} {k : Str} (hy : Ev tb σ H (.str k)) (hd : Ev ta σ H (.ref d)) (ho : H d = some (.dK [])) : EvT (tTest (tDIn tb ta)) σ H false :=
  et_test (ev_din (k0 := .inr k) (kvs := []) hy hd ho)
theorem ev_dnotin {σ : L2.St} {H : Hp} {ta tb : TE} {d : Addr} {k : Str} (hy : Ev tb σ H (.str k)) (hd : Ev ta σ H (.ref d)) (ho : H d = some (.dK [])) : Ev (tDNotIn tb ta) σ H (.bl true) := fun H1 e Q q =>
  hy H1 e _ fun H2 e2 => hd H2 (e.trans e2) _ fun H3 e3 => ⟨d, none, rfl, DGet.k (k := .inr k) (((e.trans e2).trans e3) d _ ho), q H3 (e2.trans e3)⟩
theorem et_neNew {σ : L2.St} {H : Hp} {ta : TE} {d : Addr} (ha : Ev ta σ H (.ref d)) (ho : H d = some (.dK [])) : EvT (tTest (tOp rNeDA ta tDNewK)) σ H false :=
  et_test fun H1 e Q q => ha H1 e _ fun H2 e2 p hp => ⟨d, p, [], [], rfl, rfl, Ex.new hp d _ (e2 d _ (e d _ ho)), upd_same, rfl, (fun _ h => by cases h), q _ (e2.trans (Ex.new hp))⟩
theorem ev_inS {σ : L2.St} {H : Hp} {ta tb : TE} {c : Nat} {z : Str} (h : Ev ta σ H (vS [c])) (h2 : Ev tb σ H (.str z)) : Ev (tOp (fun x y H Q => ∃ (c : Nat) (z : Str), x = .str ⟨#[c]⟩ ∧ y = .str z ∧ Q (.bl (decide (c ∈ z.cps.toList))) H) ta tb) σ H (.bl (decide (c ∈ z.cps.toList))) :=
  ev_op h h2 (rv_val fun H1 _ Q q => ⟨c, z, rfl, rfl, q⟩)
theorem ev_niS {σ : L2.St} {H : Hp} {ta tb : TE} {c : Nat} {z : Str} (h : Ev ta σ H (vS [c])) (h2 : Ev tb σ H (.str z)) : Ev (tOp (fun x y H Q => ∃ (c : Nat) (z : Str), x = .str ⟨#[c]⟩ ∧ y = .str z ∧ Q (.bl (!decide (c ∈ z.cps.toList))) H) ta tb) σ H (.bl (!decide (c ∈ z.cps.toList))) :=
  ev_op h h2 (rv_val fun H1 _ Q q => ⟨c, z, rfl, rfl, q⟩)
theorem HdOk.k5 {kind mo si ti : Nat} {nm tg : List Nat} (h : HdOk kind nm mo si ti tg) : kind = 48 ∨ kind = 83 ∨ kind = 53 ∨ kind = 50 ∨ kind = 49 := by
  have := h.hkind
  simpa using this
theorem notlong : ∀ l ∈ labels, decide (vS l = .str "././@LongLink") = false := by decide +kernel
abbrev nm_is_name_right : List Str := ["block", "long", "name"]
theorem sc_is_name_right : FnScope nm_is_name_right ["block", "long"] (defScope s_is_name_right) := fnScope_by (by decide +kernel)
abbrev rNR : List V → Hp → V → Prop := fun vs H z => ∃ l kind nm mo si ti tg, vs = [vB (Tar.hdr kind nm mo si ti tg), l] ∧ HdOk kind nm mo si ti tg ∧ LongE H l ∧ z = .bl true
theorem ok_is_name_right (T : Txt K mg a) (F : DB K mg "is_name_right" s_is_name_right ["block", "long"]) (c_name_of : Cal P w K mg base 2 "name_of" (spV 1 rNm) []) (c_is_name : Cal P w K mg base 1 "is_name" (spV 1 rName) []) : Cal P w K mg base 3 "is_name_right" (spV 2 rNR) [] := by
  refine cal_of F sc_is_name_right (fun _ _ _ _ h => h.1) fun f cdv A outer s H vs Q E hr h => ⟨_, (pss_cons (ps_set (i := 2) sc_is_name_right.nd rfl (Or.inl rfl) (C8.pe_c c_name_of hr (by decide) rfl (pa_cons (pv 0) pa_nil)))
    (pss_cons (ps_if (pt_cmp (pc_din (hu_of hr) pe_str (pv 1))) (pss_one (ps_ret (pe_cmpR op_eq (pv 2) (pe_slice sl_str (pe_dget (hu_of hr) (pv 1) pe_str (fun _ _ => rfl)) po_none (po_some (pe_gc rfl T.g_MOST_SHORT))) (nomark _)))) pss_nil)
    (pss_one (ps_ret (pe_or (pe_cmpR op_eq (pv 2) (pe_gc rfl T.g_LONG_NAME) (nomark _)) (pe_one (C8.pe_c c_is_name hr (by decide) rfl (pa_cons (pv 2) pa_nil)))))))), ?_⟩
  obtain ⟨_, _, ⟨l, kind, nm, mo, si, ti, tg, rfl, hh, ⟨d, rfl, hd⟩, rfl⟩, q⟩ := h
  refine q_asg (ev_callV (ea_cons (ev_var rfl) ea_nil) rfl fun _ _ => ⟨kind, nm, mo, si, ti, tg, ⟨rfl, hh⟩, rfl⟩) fun H1 e1 => ?_
  refine q_when (et_dinF ev_c (ev_var rfl) (e1 _ _ hd)) (fun h => absurd h (by decide)) fun _ H2 e2 => ?_
  refine s_ret (v := .bl true) (ev_orV (a := false) (b := true) (ev_is (ev_op (ev_var rfl) ev_c (rv_eq rfl)) (by rw [notlong nm hh.hnm])) fun _ => ev_callV (ea_cons (ev_var rfl) ea_nil) rfl fun _ _ => ⟨nm, rfl, labels_names hh.hnm, rfl⟩) fun H3 e3 => q H3 ((e1.trans e2).trans e3)
abbrev nm_is_target_right : List Str := ["block", "long", "target", "kind"]
theorem sc_is_target_right : FnScope nm_is_target_right ["block", "long"] (defScope s_is_target_right) := fnScope_by (by decide +kernel)
abbrev rTR : List V → Hp → V → Prop := rNR
theorem ok_is_target_right (T : Txt K mg a) (F : DB K mg "is_target_right" s_is_target_right ["block", "long"]) (c_target_of : Cal P w K mg base 2 "target_of" (spV 1 rTg) []) (c_kind_of : Cal P w K mg base 2 "kind_of" (spV 1 rKd) []) (c_is_name : Cal P w K mg base 1 "is_name" (spV 1 rName) []) : Cal P w K mg base 3 "is_target_right" (spV 2 rTR) [] := by
  refine cal_of F sc_is_target_right (fun _ _ _ _ h => h.1) fun f cdv A outer s H vs Q E hr h => ⟨_, (pss_cons (ps_par (i := 2) (j := 3) (by rfl) sc_is_target_right.nd rfl rfl (by decide) rfl rfl (pa_cons (C8.pe_c c_target_of hr (by decide) rfl (pa_cons (pv 0) pa_nil)) (pa_cons (C8.pe_c c_kind_of hr (by decide) rfl (pa_cons (pv 0) pa_nil)) pa_nil)) (by rfl))
    (pss_cons (ps_if (pt_cmpR op_notIn_sign (pv 3) pe_str (by rfl)) (pss_one (ps_ret (pe_cmpR op_eq (pv 2) pe_str (nomark _)))) pss_nil)
    (pss_one (ps_ret (pe_ifExp (pt_cmp (pc_din (hu_of hr) pe_str (pv 1))) (pe_cmpR op_eq (pv 2) (pe_slice sl_str (pe_dget (hu_of hr) (pv 1) pe_str (fun _ _ => rfl)) po_none (po_some (pe_gc rfl T.g_MOST_SHORT))) (nomark _)) (C8.pe_c c_is_name hr (by decide) rfl (pa_cons (pv 2) pa_nil))))))), ?_⟩
  obtain ⟨_, _, ⟨l, kind, nm, mo, si, ti, tg, rfl, hh, ⟨d, rfl, hd⟩, rfl⟩, q⟩ := h
  refine q_par (ev_p (ev_callV (z := vS tg) (ea_cons (ev_var rfl) ea_nil) rfl fun _ _ => ⟨kind, nm, mo, si, ti, tg, ⟨rfl, hh⟩, rfl⟩)) (fun x H1 e1 px => ev_p (ev_callV (z := vS [kind]) (ea_cons (ev_var rfl) ea_nil) rfl fun _ _ => ⟨kind, nm, mo, si, ti, tg, ⟨rfl, hh⟩, rfl⟩)) fun x y H1 H2 e1 e2 px py => ?_
  subst px
  subst py
  refine q_when (b := !decide (kind = 50 ∨ kind = 49)) (et_is (et_test (ev_niS (ev_var rfl) ev_c)) ?_) (fun hb H3 e3 => ?_) (fun hb H3 e3 => ?_)
  · have e : (kind ∈ ("12" : Str).cps.toList) ↔ (kind = 50 ∨ kind = 49) := by
      show kind ∈ [49, 50] ↔ _
      simp
      omega
    rw [decide_eq_decide.mpr e]
  · have e := hh.htg
    rw [if_neg (by simpa using hb)] at e
    subst e
    exact s_ret (v := .bl true) (ev_is (ev_op (ev_var rfl) ev_c (rv_eq rfl)) (by decide)) fun H4 e4 => q H4 (((e1.trans e2).trans e3).trans e4)
  · have e := hh.htg
    rw [if_pos (by simp at hb; omega)] at e
    refine s_ret (v := .bl true) (ev_if (b := false) (et_dinF ev_c (ev_var rfl) (((e1.trans e2).trans e3) _ _ hd)) (fun h => absurd h (by decide)) fun _ => ev_callV (ea_cons (ev_var rfl) ea_nil) rfl fun _ _ => ⟨tg, rfl, e, rfl⟩) fun H4 e4 => q H4 (((e1.trans e2).trans e3).trans e4)
abbrev nm_is_kind_right : List Str := ["block", "long", "kind"]
theorem sc_is_kind_right : FnScope nm_is_kind_right ["block", "long"] (defScope s_is_kind_right) := fnScope_by (by decide +kernel)
theorem ok_is_kind_right (T : Txt K mg a) (F : DB K mg "is_kind_right" s_is_kind_right ["block", "long"]) (c_name_of : Cal P w K mg base 2 "name_of" (spV 1 rNm) []) (c_kind_of : Cal P w K mg base 2 "kind_of" (spV 1 rKd) []) : Cal P w K mg base 3 "is_kind_right" (spV 2 rNR) [] := by
  refine cal_of F sc_is_kind_right (fun _ _ _ _ h => h.1) fun f cdv A outer s H vs Q E hr h => ⟨_, (pss_cons (ps_set (i := 2) sc_is_kind_right.nd rfl (Or.inl rfl) (C8.pe_c c_kind_of hr (by decide) rfl (pa_cons (pv 0) pa_nil)))
    (pss_cons (ps_if (PW.pt (pw_or (pt_cmpR op_eq (pv 2) pe_str (nomark _)) (pw_or (pt_cmpR op_notIn_sign (pv 2) (pe_gc rfl T.g_KINDS) (by rfl)) (pw_or1 (pt_cmpR op_ne (pe_cmpR op_in_sign (pv 2) pe_str (by rfl)) (pe_cmpR op_eq (C8.pe_c c_name_of hr (by decide) rfl (pa_cons (pv 0) pa_nil)) (pe_gc rfl T.g_LONG_NAME) (nomark _)) (nomark _)))))) (pss_one (ps_ret pe_bl)) pss_nil)
    (pss_cons (ps_if (PW.pt (pw_and (pt_cmpR (op_ne_dictA (Nat.lt_of_succ_lt (hu_of hr))) (pv 1) pe_dnewK (nomark _)) (pw_and1 (pt_cmpR op_eq (pv 2) pe_str (nomark _))))) (pss_one (ps_ret pe_bl)) pss_nil)
    (pss_one (ps_ret (pe_or (pe_cmp (pc_dnotin (hu_of hr) pe_str (pv 1))) (pe_one (pe_cmpR op_in_sign (pv 2) pe_str (by rfl))))))))), ?_⟩
  obtain ⟨_, _, ⟨l, kind, nm, mo, si, ti, tg, rfl, hh, ⟨d, rfl, hd⟩, rfl⟩, q⟩ := h
  refine q_asg (v := vS [kind]) (ev_callV (ea_cons (ev_var rfl) ea_nil) rfl fun _ _ => ⟨kind, nm, mo, si, ti, tg, ⟨rfl, hh⟩, rfl⟩) fun H1 e1 => ?_
  have hk := hh.k5
  have m1 : decide (kind ∈ ("0S521KL" : Str).cps.toList) = true := by rcases hk with rfl | rfl | rfl | rfl | rfl <;> decide
  have m2 : decide (kind ∈ ("KL" : Str).cps.toList) = false := by rcases hk with rfl | rfl | rfl | rfl | rfl <;> decide
  have m3 : decide (vS [kind] = .str "") = false := by rcases hk with rfl | rfl | rfl | rfl | rfl <;> decide +kernel
  have m4 : decide (vS [kind] = .str "K") = false := by rcases hk with rfl | rfl | rfl | rfl | rfl <;> decide +kernel
  refine q_when (et_or (a := false) (b := false) (et_is (et_eq (ev_var rfl) ev_c rfl) m3) fun _ => et_or (a := false) (b := false) (et_is (et_test (ev_niS (ev_var rfl) ev_c)) (by rw [m1]; rfl)) fun _ => et_is (et_ne (x := .bl false) (y := .bl false) (ev_is (ev_inS (ev_var rfl) ev_c) (by rw [m2])) (ev_is (ev_op (ev_callV (z := vS nm) (ea_cons (ev_var rfl) ea_nil) rfl fun _ _ => ⟨kind, nm, mo, si, ti, tg, ⟨rfl, hh⟩, rfl⟩) ev_c (rv_eq rfl)) (by rw [notlong nm hh.hnm])) rfl) (by decide)) (fun h => absurd h (by decide)) fun _ H2 e2 => ?_
  refine q_when (et_and (a := false) (b := false) (et_neNew (ev_var rfl) ((e1.trans e2) _ _ hd)) fun h => absurd h (by decide)) (fun h => absurd h (by decide)) fun _ H3 e3 => ?_
  exact s_ret (v := .bl true) (ev_orV (a := true) (b := true) (ev_dnotin ev_c (ev_var rfl) (((e1.trans e2).trans e3) _ _ hd)) fun h => absurd h (by decide)) fun H4 e4 => q H4 (((e1.trans e2).trans e3).trans e4)
abbrev nm_wrong_number : List Str := ["block", "field", "number", "is_right"]
theorem sc_wrong_number : FnScope nm_wrong_number ["block"] (defScope s_wrong_number) := fnScope_by (by decide +kernel)
theorem walk_items {d : Addr} {o : Obj} {kvs : List (Key × V)} : Walk (Iti d o kvs) kvs.length (fun H => H d = some (.frz o (.dK kvs))) (fun i H x H' => ∃ T k v, kvs[i]? = some (k, v) ∧ x = .ref T ∧ H T = none ∧ H' = upd H T (.tup [kV k, v])) :=
  ⟨fun _ _ hi h => ⟨h, hi⟩, fun _ h => ⟨h, Nat.le_refl _⟩, fun _ _ _ _ _ _ y => y⟩
abbrev rWN : List V → Hp → V → Prop := fun vs H z => ∃ kind nm mo si ti tg, HdB vs kind nm mo si ti tg ∧ z = .non
theorem numKs_at {mo si ti i : Nat} {k : Key} {v : V} (h : (numKs mo si ti)[i]? = some (k, v)) (hm : mo ≤ 4095) : ∃ fl n, k = .inr fl ∧ v = vN n ∧ (fl = "mode" → n ≤ 4095) ∧ (fl = "owner" ∨ fl = "group" → n = 0) := by
  rcases i with _ | _ | _ | _ | _ | i
  · cases h
    exact ⟨"mode", mo, rfl, rfl, fun _ => hm, fun z => absurd z (by decide)⟩
  · cases h
    exact ⟨"owner", 0, rfl, rfl, fun _ => Nat.zero_le _, fun _ => rfl⟩
  · cases h
    exact ⟨"group", 0, rfl, rfl, fun _ => Nat.zero_le _, fun _ => rfl⟩
  · cases h
    exact ⟨"size", si, rfl, rfl, fun z => absurd z (by decide), fun z => absurd z (by decide)⟩
  · cases h
    exact ⟨"time", ti, rfl, rfl, fun z => absurd z (by decide), fun z => absurd z (by decide)⟩
  · cases h
theorem ok_wrong_number (T : Txt K mg a) (F : DB K mg "wrong_number" s_wrong_number ["block"]) (c_name_of : Cal P w K mg base 2 "name_of" (spV 1 rNm) []) (c_numbers_of : Cal P w K mg base 3 "numbers_of" (spP 1 rNums) []) : Cal P w K mg base 4 "wrong_number" (spV 1 rWN) [] := by
  refine cal_of F sc_wrong_number (fun _ _ _ _ h => h.1) fun f cdv A outer s H vs Q E hr h => ⟨_, (pss_cons (ps_for PassesOwn.never rfl (pi_items (pe_lockD (C8.pe_c c_numbers_of hr (by decide) rfl (pa_cons (pv 0) pa_nil)))) (pg_tup rfl (pgs_cons (pg_name (i := 1) sc_wrong_number.nd rfl (Or.inl rfl)) (pgs_cons (pg_name (i := 2) sc_wrong_number.nd rfl (Or.inl rfl)) pgs_nil))) (pss_cons (ps_set (i := 3) sc_wrong_number.nd rfl (Or.inl rfl) (pe_cmpR op_notN (pv 2) pe_non (nomark _)))
    (pss_cons (ps_if (PW.pt (pw_and (pt_val (pv 3)) (pw_and1 (pt_cmpR op_eq (pv 1) pe_str (nomark _))))) (pss_one (ps_set (i := 3) sc_wrong_number.nd rfl (Or.inl rfl) (pe_cmpR op_le (pv 2) (pe_gc rfl T.g_MOST_MODE) (nomark _)))) pss_nil)
    (pss_cons (ps_if (PW.pt (pw_and (pt_val (pv 3)) (pw_and1 (pt_cmpR op_in_seq (pv 1) (pe_tup (pa_cons pe_str (pa_cons pe_str pa_nil))) (by rfl))))) (pss_one (ps_set (i := 3) sc_wrong_number.nd rfl (Or.inl rfl) (pe_cmpR op_eq (pv 2) pe_int (nomark _)))) pss_nil)
    (pss_cons (ps_if (PW.pt (pw_and (pt_val (pv 3)) (pw_and (pt_cmpR op_in_seq (pv 1) (pe_tup (pa_cons pe_str (pa_cons pe_str pa_nil))) (by rfl)) (pw_and1 (pt_cmpR op_eq (C8.pe_c c_name_of hr (by decide) rfl (pa_cons (pv 0) pa_nil)) (pe_gc rfl T.g_LONG_NAME) (nomark _)))))) (pss_one (ps_set (i := 3) sc_wrong_number.nd rfl (Or.inl rfl) (pe_cmpR op_eq (pv 2) pe_int (nomark _)))) pss_nil)
    (pss_one (ps_if (pt_not (pt_val (pv 3))) (pss_one (ps_ret (pv 1))) pss_nil)))))))
    (pss_one (ps_ret pe_non))), ?_⟩
  obtain ⟨_, _, ⟨kind, nm, mo, si, ti, tg, ⟨rfl, hh⟩, rfl⟩, q⟩ := h
  have hmo := hh.hmo
  have hc : EvP (tCall (spP 1 rNums) [] C8.E0 (tCons (tVar 0) tNil)) (L2.start nm_wrong_number [vB (Tar.hdr kind nm mo si ti tg)]) H (fun v H' => ∃ p, v = .ref p ∧ H p = none ∧ H' p = some (.dK (numKs mo si ti))) :=
    ep_call (ea_p (ea_cons (ev_var rfl) ea_nil)) fun vs H1 e p => ⟨by rw [p]; rfl, kind, nm, mo, si, ti, tg, ⟨p, hh⟩, fun p H' h1 h2 => ⟨p, rfl, fresh_back e h1, h2⟩⟩
  refine hc H (Ex.refl H) _ fun x H1 e1 ⟨p, ex, hp, hd⟩ => ⟨p, numKs mo si ti, ex, hd, fun od => ⟨p, od, numKs mo si ti, rfl, upd_same, ?_⟩⟩
  refine for_it (D := { nx := tRet (tC .non) { nx := fun _ H' => Q .non H', rt := Q }, rt := Q }) walk_items (fun i σ' H' => (∃ x y z, σ' = [some (vB (Tar.hdr kind nm mo si ti tg)), x, y, z]) ∧ Ex H H' ∧ H' p = some (.frz od (.dK (numKs mo si ti)))) ⟨⟨_, _, _, rfl⟩, Ex.mut e1 hp, upd_same⟩ (fun i σ' H' _ h => h.2.2) ?_ fun σ' H' h => ?_
  · rintro i x σ' H2 H3 hi ⟨⟨s1, s2, s3, rfl⟩, e2, hd2⟩ ⟨T2, k, v, hx, rfl, hT, rfl⟩
    obtain ⟨fl, n, rfl, rfl, h1, h2⟩ := numKs_at hx hmo
    refine ⟨T2, _, rfl, st_of upd_same, rfl, _, _, rfl, _, _, rfl, rfl, ?_⟩
    have e3 := e2.trans (Ex.new (o := .tup [kV (.inr fl), vN n]) hT)
    have hd3 := Ex.new (o := .tup [kV (.inr fl), vN n]) hT p _ hd2
    generalize upd H2 T2 _ = H3 at e3 hd3
    have fin : ∀ H4, Ex H3 H4 → (∃ x y z, [some (vB (Tar.hdr kind nm mo si ti tg)), some (.str fl), some (vN n), some (.bl true)] = [some (vB (Tar.hdr kind nm mo si ti tg)), x, y, z]) ∧ Ex H H4 ∧ H4 p = some (.frz od (.dK (numKs mo si ti))) := fun H4 e4 => ⟨⟨_, _, _, rfl⟩, e3.trans e4, e4 _ _ hd3⟩
    have inO : ∀ {σ : L2.St} {H : Hp} {a b : Str}, σ[1]? = some (some (.str fl)) → EvT (tTest (tOp (rIn K false) (tVar 1) (tTup (tCons (tC (.str a)) (tCons (tC (.str b)) tNil))))) σ H (inV (.str fl) [.str a, .str b]) := fun hs => et_test (ev_inU (ev_var hs) (eu_tup (ea_cons ev_c (ea_cons ev_c ea_nil)) (by show 2 ≤ 100000; decide)) rfl rfl)
    refine q_asg (v := .bl true) (ev_is (ev_notN (x := vN n) (ev_var rfl)) (by rw [decide_eq_false (fun z => nomatch z)]; rfl)) fun H4 e4 => ?_
    refine q_ifAsg (v := .bl true) (et_and (a := true) (et_B (ev_var rfl)) fun _ => et_eq (ev_var rfl) ev_c rfl) (fun hb => ?_) (fun _ => rfl) fun H5 e5 => ?_
    · have hf : fl = "mode" := by
        have : decide (V.str fl = .str "mode") = true := by
          rw [Bool.true_and] at hb
          exact hb
        exact V.str.inj (of_decide_eq_true this)
      exact ev_is (ev_op (ev_var rfl) ev_c (rv_I0 (g := fun i j => .bl (decide (i ≤ j))))) (by have := h1 hf; rw [decide_eq_true (by omega)])
    refine q_ifAsg (v := .bl true) (et_and (a := true) (et_B (ev_var rfl)) fun _ => inO rfl) (fun hb => ?_) (fun _ => rfl) fun H6 e6 => ?_
    · have hf : fl = "owner" ∨ fl = "group" := by
        simp only [Bool.true_and, inV, List.any_cons, List.any_nil, Bool.or_false, Bool.or_eq_true] at hb
        rcases hb with hb | hb
        · exact .inl (show ("owner" : Str) = fl by simpa [eqV] using hb).symm
        · exact .inr (show ("group" : Str) = fl by simpa [eqV] using hb).symm
      have := h2 hf
      subst this
      exact ev_is (ev_op (ev_var rfl) ev_c (rv_eq rfl)) (by decide)
    refine q_when (b := false) (et_is (et_and (a := true) (et_B (ev_var rfl)) fun _ => et_and (inO rfl) fun _ => et_is (et_eq (ev_callV (z := vS nm) (ea_cons (ev_var rfl) ea_nil) rfl fun _ _ => ⟨kind, nm, mo, si, ti, tg, ⟨rfl, hh⟩, rfl⟩) ev_c rfl) (notlong nm hh.hnm)) (by simp)) (fun h => absurd h (by decide)) fun _ H7 e7 => ?_
    exact s_when (et_nT (et_B (ev_var rfl))) (fun h => absurd h (by decide)) fun _ H8 e8 => fin H8 ((((e4.trans e5).trans e6).trans e7).trans e8)
  · obtain ⟨⟨s1, s2, s3, rfl⟩, e2, _⟩ := h
    show tRet (tC .non) { nx := fun _ H' => Q .non H', rt := Q } [some (vB (Tar.hdr kind nm mo si ti tg)), s1, s2, s3] H'
    exact s_ret ev_c fun H4 e4 => q H4 (e2.trans e4)
/-- the table SIZES -/
structure SizF (K : PySem.W.Frag) (w : World) (a : Ad) : Prop where
  ns : (a.aSIZES == sysModules) = false
  d0 : ∃ t, KDct K w a.aSIZES "0" (.ref t) ∧ ∀ H, SqT K H t [vN 0, vN 4096]
  dS : ∃ t, KDct K w a.aSIZES "S" (.ref t) ∧ ∀ H, SqT K H t [vN 512, vN 4608]
  m5 : KMiss K w a.aSIZES "5"
  m2 : KMiss K w a.aSIZES "2"
  m1 : KMiss K w a.aSIZES "1"
abbrev nm_wrong_field : List Str := ["block", "long", "low", "high", "field"]
theorem sc_wrong_field : FnScope nm_wrong_field ["block", "long"] (defScope s_wrong_field) := fnScope_by (by decide +kernel)
theorem ok_wrong_field (T : Txt K mg a) (S : SizF K w a) (F : DB K mg "wrong_field" s_wrong_field ["block", "long"]) (c_is_name_right : Cal P w K mg base 3 "is_name_right" (spV 2 rNR) []) (c_wrong_number : Cal P w K mg base 4 "wrong_number" (spV 1 rWN) []) (c_is_kind_right : Cal P w K mg base 3 "is_kind_right" (spV 2 rNR) [])
    (c_is_target_right : Cal P w K mg base 3 "is_target_right" (spV 2 rNR) []) (c_magic_field : Cal P w K mg base 1 "magic_field" (spV 0 rMg) []) (c_checksum_field : Cal P w K mg base 2 "checksum_field" (spV 1 rCk) []) (c_kind_of : Cal P w K mg base 2 "kind_of" (spV 1 rKd) []) (c_numbers_of : Cal P w K mg base 3 "numbers_of" (spP 1 rNums) []) :
    Cal P w K mg base 5 "wrong_field" (spV 2 fun vs H z => ∃ l kind nm mo si ti tg, vs = [vB (Tar.hdr kind nm mo si ti tg), l] ∧ HdOk kind nm mo si ti tg ∧ LongE H l ∧ z = .non) [] := by
  refine cal_of F sc_wrong_field (fun _ _ _ _ h => h.1) fun f cdv A outer s H vs Q E hr h => ⟨_, (pss_cons (ps_if (pt_not (pt_val (C8.pe_c c_is_name_right hr (by decide) rfl (pa_cons (pv 0) (pa_cons (pv 1) pa_nil))))) (pss_one (ps_ret pe_str)) pss_nil)
    (pss_cons (ps_ifW (ptw_cmp op_notN (pew_named (i := 4) sc_wrong_field.nd rfl (Or.inl rfl) (pew_of (C8.pe_c c_wrong_number hr (by decide) rfl (pa_cons (pv 0) pa_nil)))) pe_non (nomark _)) (pss_one (ps_ret (pv 4))) pss_nil)
    (pss_cons (ps_if (pt_not (pt_val (C8.pe_c c_is_kind_right hr (by decide) rfl (pa_cons (pv 0) (pa_cons (pv 1) pa_nil))))) (pss_one (ps_ret pe_str)) pss_nil)
    (pss_cons (ps_if (pt_not (pt_val (C8.pe_c c_is_target_right hr (by decide) rfl (pa_cons (pv 0) (pa_cons (pv 1) pa_nil))))) (pss_one (ps_ret pe_str)) pss_nil)
    (pss_cons (ps_if (pt_cmpR op_ne (pe_slice sl_byt (pv 0) (po_some pe_int) (po_some pe_int)) (pe_c0 c_magic_field hr (by decide) rfl) (nomark _)) (pss_one (ps_ret pe_str)) pss_nil)
    (pss_cons (ps_if (pt_cmpR op_ne (pe_slice sl_byt (pv 0) (po_some pe_int) po_none) (pe_callTy call_bytesN (by rfl) T.b_bytes (by decide +kernel) (pa_cons pe_int pa_nil)) (nomark _)) (pss_one (ps_ret pe_str)) pss_nil)
    (pss_cons (ps_if (pt_cmpR op_ne (pe_slice sl_byt (pv 0) (po_some pe_int) (po_some pe_int)) (C8.pe_c c_checksum_field hr (by decide) rfl (pa_cons (pv 0) pa_nil)) (nomark _)) (pss_one (ps_ret pe_str)) pss_nil)
    (pss_cons (ps_asg (pe_kget2 S.ns (pe_gc rfl T.g_SIZES) (C8.pe_c c_kind_of hr (by decide) rfl (pa_cons (pv 0) pa_nil)) (pe_tup (pa_cons pe_int (pa_cons pe_int pa_nil))) ⟨rfl, rfl, rfl, rfl⟩) (pg_tup rfl (pgs_cons (pg_name (i := 2) sc_wrong_field.nd rfl (Or.inl rfl)) (pgs_cons (pg_name (i := 3) sc_wrong_field.nd rfl (Or.inl rfl)) pgs_nil))))
    (pss_one (ps_ret (pe_ifExp (pt_chain op_le op_le (pv 2) (pe_dget (hu_of hr) (C8.pe_c c_numbers_of hr (by decide) rfl (pa_cons (pv 0) pa_nil)) pe_str (fun _ _ => rfl)) (pv 3)) pe_non pe_str))))))))))), ?_⟩
  obtain ⟨_, _, ⟨l, kind, nm, mo, si, ti, tg, rfl, hh, ⟨d, rfl, hd⟩, rfl⟩, q⟩ := h
  have nl : nm.length ≤ 100 := by have := hh.nl; omega
  have tl : tg.length ≤ 100 := by have := hh.tp.2; omega
  refine q_when (et_nT (et_B (ev_callV (ea_cons (ev_var rfl) (ea_cons (ev_var rfl) ea_nil)) rfl fun H1 e1 => ⟨.ref d, kind, nm, mo, si, ti, tg, rfl, hh, ⟨d, rfl, e1 _ _ hd⟩, rfl⟩))) (fun h => absurd h (by decide)) fun _ H1 e1 => ?_
  have hd1 := e1 _ _ hd
  refine q_whenW (w_notN (ev_callV (ea_cons (ev_var rfl) ea_nil) rfl fun _ _ => ⟨kind, nm, mo, si, ti, tg, ⟨rfl, hh⟩, rfl⟩)) fun H2 e2 => ?_
  have e12 := e1.trans e2
  refine q_when (et_nT (et_B (ev_callV (ea_cons (ev_var rfl) (ea_cons (ev_var rfl) ea_nil)) rfl fun H3 e3 => ⟨.ref d, kind, nm, mo, si, ti, tg, rfl, hh, ⟨d, rfl, (e12.trans e3) _ _ hd⟩, rfl⟩))) (fun h => absurd h (by decide)) fun _ H3 e3 => ?_
  have e13 := e12.trans e3
  refine q_when (et_nT (et_B (ev_callV (ea_cons (ev_var rfl) (ea_cons (ev_var rfl) ea_nil)) rfl fun H3 e3 => ⟨.ref d, kind, nm, mo, si, ti, tg, rfl, hh, ⟨d, rfl, (e13.trans e3) _ _ hd⟩, rfl⟩))) (fun h => absurd h (by decide)) fun _ H4 e4 => ?_
  refine q_when (b := false) (et_is (et_ne (x := vB Tar.magic) (y := vB Tar.magic) (ev_is (ev_slB (i := 257) (j := 265) (ev_var rfl) (eo_some ev_c) (eo_some ev_c) (by rw [hh.len]; decide) (by decide) (by rw [hh.len]; decide)) ?_) (ev_callV ea_nil rfl fun _ _ => ⟨rfl, rfl⟩) rfl) (by simp)) (fun h => absurd h (by decide)) fun _ H5 e5 => ?_
  · rw [show ((Tar.hdr kind nm mo si ti tg).drop 257).take (265 - 257) = Tar.magic from Tar.f_magic nl tl]
  refine q_when (b := false) (et_is (et_ne (x := vB (Tar.zs 247)) (y := vB (Tar.zs 247)) (ev_is (ev_slBfrom (i := 265) (ev_var rfl) (eo_some ev_c) (by rw [hh.len]; decide) (by rw [hh.len]; decide)) (by rw [Tar.f_rest nl tl])) (ev_zeros (n := 247) (ev_c (v := .int 247)) rfl (by decide)) rfl) (by simp)) (fun h => absurd h (by decide)) fun _ H6 e6 => ?_
  refine q_when (b := false) (et_is (et_ne (x := vB (Tar.ck (Tar.ckOf (Tar.front nm mo si ti) (Tar.behind kind tg)))) (y := vB (Tar.ck (Tar.ckOf (Tar.front nm mo si ti) (Tar.behind kind tg)))) (ev_is (ev_slB (i := 148) (j := 156) (ev_var rfl) (eo_some ev_c) (eo_some ev_c) (by rw [hh.len]; decide) (by decide) (by rw [hh.len]; decide)) ?_) (ev_callV (ea_cons (ev_var rfl) ea_nil) rfl fun _ _ => ⟨Tar.hdr kind nm mo si ti tg, _, rfl, by rw [hh.len]; decide, by rw [hh.len]; decide, ?_, Tar.ckOf_lt nl tl, rfl⟩) rfl) (by simp)) (fun h => absurd h (by decide)) fun _ H7 e7 => ?_
  · rw [show ((Tar.hdr kind nm mo si ti tg).drop 148).take (156 - 148) = _ from Tar.f_ck nl]
  · have h1 := Tar.hdr_sum (kind := kind) (mode := mo) (size := si) (time := ti) (tg := tg) nl
    have h2 : Tar.sumB (Tar.sl (Tar.hdr kind nm mo si ti tg) 148 156) ≤ Tar.sumB (Tar.hdr kind nm mo si ti tg) := by
      rw [Tar.f_ck nl]
      conv => rhs; unfold Tar.hdr
      rw [Tar.sumB_append, Tar.sumB_append]
      omega
    show ((Tar.sumB (Tar.hdr kind nm mo si ti tg) : Nat) : Int) - ((Tar.sumB (Tar.sl (Tar.hdr kind nm mo si ti tg) 148 156) : Nat) : Int) + 256 = _
    rw [← h1]
    omega
  have e17 := (((e13.trans e4).trans e5).trans e6).trans e7
  have hc : ∀ {σ : L2.St} {H : Hp}, σ[0]? = some (some (vB (Tar.hdr kind nm mo si ti tg))) → Ev (tDGet (tCall (spP 1 rNums) [] C8.E0 (tCons (tVar 0) tNil)) (tC (.str "size"))) σ H (vN si) := fun hs H1 e Q q =>
    (ep_call (P := fun v H' => ∃ p, v = .ref p ∧ H' p = some (.dK (numKs mo si ti))) (ea_p (ea_cons (ev_var hs) ea_nil)) fun vs H1 e p => ⟨by rw [p]; rfl, kind, nm, mo, si, ti, tg, ⟨p, hh⟩, fun p H' h1 h2 => ⟨p, rfl, h2⟩⟩) H1 e _ fun x H2 e2 ⟨p, ex, hp⟩ => ⟨p, vN si, ex, DGet.k (k := .inr "size") hp, q H2 e2⟩
  have fin : ∀ {n : Nat} {σ : L2.St} {D : Ends} (t : Addr) (lo hi : Nat) (H8 : Hp), Ex H H8 → SqT K H8 t [vN lo, vN hi] → lo ≤ si → si ≤ hi → n = 2 → (∀ H', Ex H H' → D.rt .non H') → σ = (L2.start nm_wrong_field [vB (Tar.hdr kind nm mo si ti tg), V.ref d]).set 4 (some V.non) →
      gTup K n (gCons (gName 2) (gCons (gName 3) gNil)) (.ref t) σ H8 (tRet (tIf (tTest (tChain (rI0 fun i j => V.bl (decide (i ≤ j))) (rI0 fun i j => V.bl (decide (i ≤ j))) (tVar 2) (tDGet (tCall (spP 1 rNums) [] C8.E0 (tCons (tVar 0) tNil)) (tC (.str "size"))) (tVar 3))) (tC V.non) (tC (V.str "size"))) D) :=
    fun {n σ D} t lo hi H8 e8 ht h1 h2 hn kk hs => by
      subst hn
      subst hs
      refine ⟨t, _, rfl, ht, rfl, _, _, rfl, _, _, rfl, rfl, ?_⟩
      exact s_ret (ev_if (b := true) (et_is (et_chain (ev_var rfl) (hc rfl) (ev_var rfl)) (by rw [decide_eq_true (by omega), decide_eq_true (by omega)]; rfl)) (fun _ => ev_c) fun z => nomatch z) fun H9 e9 => kk H9 (e8.trans e9)
  have kd : ∃ es n, K.lookup a.aSIZES = some ⟨.type "dict", none, .dict es n, #[]⟩ ∧ PySem.W.KeysLit w.params es.toList := by
    obtain ⟨t, ⟨es, n, _, h1, h2, _⟩, _⟩ := S.d0
    exact ⟨es, n, h1, h2⟩
  have hkd : ∀ {σ : L2.St} {H : Hp}, σ[0]? = some (some (vB (Tar.hdr kind nm mo si ti tg))) → Ev (tCall (spV 1 rKd) [] C8.E0 (tCons (tVar 0) tNil)) σ H (vS [kind]) := fun hs => ev_callV (ea_cons (ev_var hs) ea_nil) rfl fun _ _ => ⟨kind, nm, mo, si, ti, tg, ⟨rfl, hh⟩, rfl⟩
  refine ⟨rfl, kd, hkd rfl H7 (Ex.refl H7) _ fun H8 e8 => ?_⟩
  refine (eu_tup (ea_cons (ev_c (v := vN 0)) (ea_cons (ev_c (v := vN 0)) ea_nil)) (by show 2 ≤ 100000; decide)) H8 (Ex.refl H8) _ fun t2 H9 ht2 e9 h9 => ⟨sS [kind], rfl, ?_⟩
  have e19 := (e17.trans e8).trans e9
  have hsi := hh.hsi
  rcases hh.k5 with rfl | rfl | rfl | rfl | rfl
  · obtain ⟨t, h1, h2⟩ := S.d0
    exact .inl ⟨_, h1, fin t 0 4096 H9 e19 (h2 H9) (Nat.zero_le _) (hh.h48 rfl) rfl q rfl⟩
  · obtain ⟨t, h1, h2⟩ := S.dS
    exact .inl ⟨_, h1, fin t 512 4608 H9 e19 (h2 H9) (hh.h83 rfl) hsi rfl q rfl⟩
  · exact .inr ⟨S.m5, fin t2 0 0 H9 e19 (st_of h9) (Nat.zero_le _) (Nat.le_of_eq (hh.hzz (by decide) (by decide))) rfl q rfl⟩
  · exact .inr ⟨S.m2, fin t2 0 0 H9 e19 (st_of h9) (Nat.zero_le _) (Nat.le_of_eq (hh.hzz (by decide) (by decide))) rfl q rfl⟩
  · exact .inr ⟨S.m1, fin t2 0 0 H9 e19 (st_of h9) (Nat.zero_le _) (Nat.le_of_eq (hh.hzz (by decide) (by decide))) rfl q rfl⟩
end
end Tl
end

section
set_option autoImplicit false
set_option linter.all false
set_option maxRecDepth 100000
set_option maxHeartbeats 4000000
/-! Plain mathematics: members as bytes, archives. -/
namespace Tl
open Tar (By)
def kc : Mem → Nat | .fil .. => 48 | .spa .. => 83 | .dir .. => 53 | .sym .. => 50 | .lnk .. => 49
def tgOf : Mem → List Nat | .sym _ _ _ g => g | .lnk _ _ _ g => g | _ => []
/-- the numbers of a map -/
def mapN (k : Nat) : List Nat := [9, k] ++ (([(1, 2), (5, 1)] : List (Nat × Nat)).take k).flatMap fun s => [s.1, s.2]
def mapT (k : Nat) : List Nat := (mapN k).flatMap fun n => [48 + n, 10]
def pad (d : By) : By := d ++ Tar.zs ((512 - d.length % 512) % 512)
def mapB (k : Nat) : By := pad (Tar.enc (mapT k))
def pcD (k : Nat) (x y : UInt8) : By := ((pcs k x y).map (·.2)).flatten
def stB : Mem → By | .fil _ _ _ d => d | .spa _ _ _ k x y => mapB k ++ pcD k x y | _ => []
def hdB (m : Mem) : By := Tar.hdr (kc m) m.nm m.mo (stB m).length m.ti (tgOf m)
def mB (m : Mem) : By := hdB m ++ pad (stB m)
def arcB (ms : List Mem) : By := (ms.map mB).flatten ++ Tar.zs 1024
theorem pad_length (d : By) : (pad d).length = (d.length + 511) / 512 * 512 := by
  unfold pad
  rw [List.length_append, Tar.zs_length]
  omega
theorem mapT_len {k : Nat} (h : k ≤ 2) : (mapT k).length ≤ 12 ∧ 0 < (mapT k).length := by
  match k, h with
  | 0, _ => decide
  | 1, _ => decide
  | 2, _ => decide
theorem mapB_length {k : Nat} (h : k ≤ 2) : (mapB k).length = 512 := by
  have := mapT_len h
  unfold mapB
  rw [pad_length, Tar.enc_length]
  omega
theorem pcD_len {k : Nat} {x y : UInt8} (h : k ≤ 2) : (pcD k x y).length = if k = 0 then 0 else k + 1 := by
  match k, h with
  | 0, _ => rfl
  | 1, _ => rfl
  | 2, _ => rfl
theorem stB_len {m : Mem} (h : m.Ok) : (stB m).length ≤ 515 := by
  cases m with
  | fil n mo ti d => have := h.2; show d.length ≤ _; omega
  | spa n mo ti k x y =>
    have := mapB_length h.2
    have h2 := pcD_len (x := x) (y := y) h.2
    show (mapB k ++ pcD k x y).length ≤ _
    rw [List.length_append, this, h2]
    have := h.2
    split <;> omega
  | dir n mo ti => exact Nat.zero_le _
  | sym n mo ti g => exact Nat.zero_le _
  | lnk n mo ti g => exact Nat.zero_le _
theorem hdOk {m : Mem} (h : m.Ok) : HdOk (kc m) m.nm m.mo (stB m).length m.ti (tgOf m) := by
  have hb := h.base
  have hl := stB_len h
  refine ⟨hb.nm, ?_, hb.mo, hb.ti, ?_, by omega, fun _ => by omega, ?_, ?_⟩
  · cases m <;> simp [kc]
  · cases m with
    | fil n mo ti d => rfl
    | spa n mo ti k x y => rfl
    | dir n mo ti => rfl
    | sym n mo ti g => exact symTs_names h.2
    | lnk n mo ti g => exact lnkTs_names h.2
  · cases m with
    | spa n mo ti k x y =>
      intro _
      show 512 ≤ (mapB k ++ pcD k x y).length
      rw [List.length_append, mapB_length h.2]
      omega
    | fil n mo ti d => intro z; exact absurd (show (48 : Nat) = 83 from z) (by decide)
    | dir n mo ti => intro z; exact absurd (show (53 : Nat) = 83 from z) (by decide)
    | sym n mo ti g => intro z; exact absurd (show (50 : Nat) = 83 from z) (by decide)
    | lnk n mo ti g => intro z; exact absurd (show (49 : Nat) = 83 from z) (by decide)
  · cases m with
    | spa n mo ti k x y => intro _ z; exact absurd rfl z
    | fil n mo ti d => intro z; exact absurd rfl z
    | dir n mo ti => intros; rfl
    | sym n mo ti g => intros; rfl
    | lnk n mo ti g => intros; rfl
theorem mB_length {m : Mem} (h : m.Ok) : (mB m).length = 512 + ((stB m).length + 511) / 512 * 512 := by
  unfold mB hdB
  rw [List.length_append, (hdOk h).len, pad_length]
theorem mB_le {m : Mem} (h : m.Ok) : (mB m).length ≤ 1536 := by
  have := stB_len h
  rw [mB_length h]
  omega
theorem flat_le : ∀ {ms : List Mem}, (∀ m ∈ ms, m.Ok) → ((ms.map mB).flatten).length ≤ 1536 * ms.length
  | [], _ => Nat.le_refl _
  | m :: ms, h => by
    rw [List.map_cons, List.flatten_cons, List.length_append, List.length_cons]
    have := mB_le (h m (.head _))
    have := flat_le (ms := ms) fun x hx => h x (.tail _ hx)
    omega
end Tl
end

section
set_option Elab.async false
set_option linter.all false
set_option maxRecDepth 100000
set_option maxHeartbeats 4000000
/-! Writing. -/
namespace Tl
open PySem PySem.Spec PyProof.Rows L2 Evl
open Tar (By)
open C8 (Cal Met Mak pe_c pe_mk pe_mt pe_mt0 pe_gc fnScope_by)
section
variable {P : Program} {w : World} {K : PySem.W.Frag} {mg : Str → Option Value} {base : Heap} {a : Ad}
theorem ps_neverR {X : Cx} {e : Expr} {pos : Pos} : PS X (.Return (some e) pos) (fun _ _ _ => False) := ⟨fun _ _ _ _ _ _ h => h.elim⟩
/-! ### b"".join -/
theorem joined_fold : ∀ (l : List (Array UInt8)) (n : Nat) (out : Array UInt8), ((l.zipIdx n).foldl (fun out (p : Array UInt8 × Nat) => (if p.2 > 0 then out ++ (#[] : Array UInt8) else out) ++ p.1) out) = out ++ (l.map Array.toList).flatten.toArray
  | [], _, out => by simp
  | b :: l, n, out => by
    rw [List.zipIdx_cons, List.foldl_cons, joined_fold l (n + 1)]
    have e : (if n > 0 then out ++ (#[] : Array UInt8) else out) = out := by split <;> simp
    show (if n > 0 then out ++ (#[] : Array UInt8) else out) ++ b ++ _ = _
    rw [e, List.map_cons, List.flatten_cons]
    apply Array.ext'
    simp
theorem joined_eq (bs : List By) : Builtin.Bytes.joined #[] (bs.map List.toArray) = bs.flatten.toArray := by
  have h := joined_fold (bs.map List.toArray) 0 #[]
  have e : ((bs.map List.toArray).map Array.toList).flatten.toArray = bs.flatten.toArray := by
    rw [List.map_map]
    congr 2
    conv => rhs; rw [← List.map_id bs]
    exact List.map_congr_left fun x _ => rfl
  rw [e] at h
  exact h.trans (by simp)
theorem ev_joinB {σ : L2.St} {H : Hp} {ta tb : TE} {bs : List By} (ha : Ev ta σ H (.byt #[])) (hb : EvL tb σ H (bs.map vB)) (hz : bs.flatten.length ≤ 100000) : Ev (tBB (rBjoin K) ta (tCons tb tNil)) σ H (vB bs.flatten) := fun H1 e Q q =>
  ha H1 e _ fun H2 e2 => ⟨⟨_, rfl⟩, hb H2 (e.trans e2) _ fun p H3 hp e3 h3 => ⟨#[], p, bs.map List.toArray, rfl, rfl, by rw [List.map_map]; exact sq_of h3, by
    have : ∀ (l : List By) (n : Nat), (l.map List.toArray).toArray.foldl (fun s b => s + b.size) n = n + l.flatten.length := fun l => by
      induction l with
      | nil => intro n; simp
      | cons x l ih => intro n; simp at ih ⊢; rw [ih]; omega
    unfold Builtin.Bytes.tooLong
    rw [this]
    exact decide_eq_false (by rw [sizeLine_eq]; simp at hz ⊢; omega), by rw [joined_eq, List.size_toArray, sizeLine_eq]; omega, by rw [joined_eq]; exact q H3 (e2.trans e3)⟩⟩
abbrev nm_padded : List Str := ["data"]
theorem sc_padded : FnScope nm_padded ["data"] (defScope s_padded) := fnScope_by (by decide +kernel)
abbrev rPad : List V → Hp → V → Prop := fun vs _ z => ∃ d : By, vs = [vB d] ∧ d.length ≤ 5000 ∧ z = vB (pad d)
theorem ok_padded (T : Txt K mg a) (F : DB K mg "padded" s_padded ["data"]) : Cal P w K mg base 1 "padded" (spV 1 rPad) [] := by
  refine cal_of F sc_padded (fun _ _ _ _ h => h.1) fun f cdv A outer s H vs Q E hr h => ⟨_, (pss_one (ps_ret (pe_op op_add_byt (pv 0) (pe_callTy call_bytesN (by rfl) T.b_bytes (by decide +kernel) (pa_cons (pe_op op_sub (pe_op op_mulW (pe_op op_fdiv (pe_un un_neg (pe_callB call_len (by rfl) T.b_len PySem.boot_len (pa_cons (pv 0) pa_nil))) (pe_gc rfl T.g_BLOCK)) (pe_un un_neg (pe_gc rfl T.g_BLOCK))) (pe_callB call_len (by rfl) T.b_len PySem.boot_len (pa_cons (pv 0) pa_nil))) pa_nil))))), ?_⟩
  obtain ⟨_, _, ⟨d, rfl, hd, rfl⟩, q⟩ := h
  have hl : ∀ {σ : L2.St} {H : Hp}, σ[0]? = some (some (vB d)) → Ev (tCB (rLen K) (tCons (tVar 0) tNil)) σ H (vN d.length) := fun hs => ev_len8 (ev_var hs) (by omega)
  refine s_ret (v := vB (pad d)) (ev_catB (m := Tar.zs ((512 - d.length % 512) % 512)) (ev_var rfl) (ev_zeros (n := (512 - d.length % 512) % 512) (ev_I (g := fun i j => i - j) (ev_IC (g := fun i j => i * j) (ev_IC (g := fun i j => i / j) (j := 512) (ev_un (hl rfl) fun H1 _ Q q => ⟨_, rfl, q H1 (Ex.refl H1)⟩) ev_c ?_) (ev_un (z := .int (-512)) ev_c fun H1 _ Q q => ⟨512, rfl, q H1 (Ex.refl H1)⟩) ?_) (hl rfl)) ?_ ?_) ?_) fun H1 e1 => q H1 e1
  · exact ⟨by decide, by decide⟩
  · refine wide_mul (a := 20) (b := 20) ?_ (by decide) (by decide) (by decide) (by decide)
    show (-(d.length : Int) / 512).natAbs < 2 ^ 20
    omega
  · omega
  · omega
  · rw [Tar.zs_length]; omega
abbrev nm_map_block : List Str := ["size", "spans", "numbers", "span", "number"]
theorem sc_map_block : FnScope nm_map_block ["size", "spans"] (defScope s_map_block) := fnScope_by (by decide +kernel)
def spnI (k : Nat) : List (Int × Int) := ([(1, 2), (5, 1)] : List (Int × Int)).take k
def flatS (S : List (Int × Int)) : List V := S.flatMap fun s => [.int s.1, .int s.2]
theorem flatS_snoc {S : List (Int × Int)} {i : Nat} {s : Int × Int} (h : S[i]? = some s) : flatS (S.take (i + 1)) = flatS (S.take i) ++ [.int s.1, .int s.2] := by
  rw [List.take_add_one, h]
  unfold flatS
  rw [List.flatMap_append]
  rfl
theorem yes_go {σ : L2.St} {H : Hp} {A B : Hp → Prop} (h : A H) : tYes σ H (fun b H3 => if b = true then A H3 else B H3) := by
  show (if true = true then A H else B H)
  rw [if_pos rfl]
  exact h
theorem el_lc2 {σ : L2.St} {H : Hp} {tl : TE} {p : Addr} {qs : List V} {S : List (Int × Int)} {i0 j0 : Nat} (hl : Ev tl σ H (.ref p)) (hp : H p = some (.lst qs)) (hS : Paired (SpAt H) qs S) (hz : qs.length ≤ 1000)
    (hw1 : ∀ x, wipe ((wipe σ [i0, j0]).set i0 (some x)) [i0, j0] = wipe σ [i0, j0]) (hv : ∀ x, ((wipe σ [i0, j0]).set i0 (some x))[i0]? = some (some x))
    (hw2 : ∀ x y, wipe ((wipe ((wipe σ [i0, j0]).set i0 (some x)) [j0]).set j0 (some y)) [j0] = wipe ((wipe σ [i0, j0]).set i0 (some x)) [j0]) (hv2 : ∀ x y, ((wipe ((wipe σ [i0, j0]).set i0 (some x)) [j0]).set j0 (some y))[j0]? = some (some y)) :
    EvL (tLc2 (iList K tl) (gName i0) tYes (iTup K (tVar i0)) (gName j0) tYes (tVar j0) [i0, j0] [j0]) σ H (flatS S) := fun H0 e0 Q q =>
  (ei_list (K := K) hl (sq_of hp)) H0 e0 _ fun J G H1 e1 wk hG stay D hD => by
    have hlen := paired_len hS
    have e01 := e0.trans e1
    refine ⟨fun i m H' => m = qs.length - i ∧ i ≤ qs.length ∧ Ex H1 H' ∧ H' D = some (.lst (flatS (S.take i))), ⟨qs.length, by simp, Nat.zero_le _, Ex.new hD, upd_same⟩, ?_⟩
    rintro i m H' ⟨rfl, hle, e2, hD2⟩
    have hG2 := stay D H1 H' hD hG e2
    by_cases hlt : i < qs.length
    · refine .inr ⟨wk.goes i H' hlt hG2, fun H2 => i + 1 ≤ qs.length ∧ Ex H1 H2 ∧ H2 D = some (.lst (flatS (S.take (i + 1)))), fun H2 p => ⟨qs.length - (i + 1), by omega, rfl, p.1, p.2.1, p.2.2⟩, fun x H2 y => ?_⟩
      obtain ⟨rfl, hx⟩ := wk.yields i H' x H2 hlt hG2 y
      obtain ⟨s1, hs1, b, rfl, hb⟩ := paired_get hS hx
      have hb2 : H2 b = some (.tup [.int s1.1, .int s1.2]) := e2 _ _ (e01 _ _ hb)
      have hfl := flatS_snoc hs1
      have hll : ∀ n, (flatS (S.take n)).length ≤ 2 * n := fun n => by
        unfold flatS
        induction n with
        | zero => exact Nat.le_refl _
        | succ n ih =>
          rw [List.take_add_one, List.flatMap_append, List.length_append]
          cases S[n]? with
          | none => simp at ih ⊢; omega
          | some z => simp at ih ⊢; omega
      refine ⟨hw1 _, ?_⟩
      refine yes_go ?_
      refine ⟨_, hv _, b, rfl, ⟨_, st_of hb2⟩, ?_⟩
      refine ⟨fun j k H' => k = 2 - j ∧ j ≤ 2 ∧ Ex H1 H' ∧ H' b = some (.tup [.int s1.1, .int s1.2]) ∧ H' D = some (.lst (flatS (S.take i) ++ ([.int s1.1, .int s1.2] : List V).take j)), ⟨2, rfl, by decide, e2, hb2, by rw [List.take_zero, List.append_nil]; exact hD2⟩, ?_⟩
      rintro j k H3 ⟨rfl, hj, e3, hb3, hD3⟩
      have wt : Walk (Itt K b) 2 (fun H => SqT K H b [.int s1.1, .int s1.2]) (YAt [.int s1.1, .int s1.2]) := walk_tup (K := K) (a := b) (xs := [.int s1.1, .int s1.2])
      by_cases hj2 : j < 2
      · refine .inr ⟨wt.goes j H3 hj2 (st_of hb3), fun H4 => j + 1 ≤ 2 ∧ Ex H1 H4 ∧ H4 b = some (.tup [.int s1.1, .int s1.2]) ∧ H4 D = some (.lst (flatS (S.take i) ++ ([.int s1.1, .int s1.2] : List V).take (j + 1))), fun H4 p => ⟨2 - (j + 1), by omega, rfl, p⟩, fun x H4 y => ?_⟩
        obtain ⟨rfl, hx⟩ := wt.yields j H3 x H4 hj2 (st_of hb3) y
        refine ⟨hw2 _ _, ?_⟩
        refine yes_go ?_
        refine ⟨x, hv2 _ _, _, hD3, ?_, hj2, Ex.mut e3 hD, ?_, ?_⟩
        · have := hll i
          rw [List.length_append, List.length_take, sizeLine_eq]
          simp
          omega
        · rw [upd_ne (fun z => by rw [z, hD3] at hb3; cases hb3)]
          exact hb3
        · rw [upd_same, List.take_add_one, hx]
          simp
      · have hj3 : j = 2 := by omega
        subst hj3
        refine .inl ⟨wt.stops H3 (st_of hb3), hlt, e3, ?_⟩
        rw [hfl]
        exact hD3
    · have hi : i = qs.length := by omega
      subst hi
      refine .inl ⟨wk.stops H' hG2, q D H' (fresh_back e1 hD) (e1.trans e2) ?_⟩
      rw [hlen, List.take_length] at hD2
      exact hD2
abbrev rMap : List V → Hp → V → Prop := fun vs H z => ∃ (k : Nat) (p : Addr) (qs : List V), vs = [.int 9, .ref p] ∧ H p = some (.lst qs) ∧ Paired (SpAt H) qs (spnI k) ∧ k ≤ 2 ∧ z = vB (mapB k)
def lineV : V → V | .int i => .str (Str.empty ++ Str.ofString (toString i) ++ "\n") | v => v
theorem map_lines {k : Nat} (h : k ≤ 2) : ∃ ys : List Str, ([V.int 9, .int (k : Int)] ++ flatS (spnI k)).map lineV = ys.map V.str ∧ Txt.join "" ys = sS (mapT k) ∧ (ys.map (·.length)).sum ≤ 100 := by
  match k, h with
  | 0, _ => exact ⟨["9\n", "0\n"], by decide +kernel, by decide +kernel, by decide +kernel⟩
  | 1, _ => exact ⟨["9\n", "1\n", "1\n", "2\n"], by decide +kernel, by decide +kernel, by decide +kernel⟩
  | 2, _ => exact ⟨["9\n", "2\n", "1\n", "2\n", "5\n", "1\n"], by decide +kernel, by decide +kernel, by decide +kernel⟩
theorem mapN_small {k : Nat} (h : k ≤ 2) : ∀ v ∈ ([V.int 9, .int (k : Int)] ++ flatS (spnI k)), ∃ i : Int, v = .int i ∧ i.natAbs ≤ 9 := by
  match k, h with
  | 0, _ => intro v hv; simp [flatS, spnI] at hv; rcases hv with rfl | rfl <;> exact ⟨_, rfl, by decide⟩
  | 1, _ => intro v hv; simp [flatS, spnI] at hv; rcases hv with rfl | rfl | rfl | rfl <;> exact ⟨_, rfl, by decide⟩
  | 2, _ => intro v hv; simp [flatS, spnI] at hv; rcases hv with rfl | rfl | rfl | rfl | rfl | rfl <;> exact ⟨_, rfl, by decide⟩
theorem mapT_asc {k : Nat} (h : k ≤ 2) : ∀ c ∈ mapT k, c < 128 := by
  match k, h with
  | 0, _ => decide
  | 1, _ => decide
  | 2, _ => decide
theorem ok_map_block (T : Txt K mg a) (F : DB K mg "map_block" s_map_block ["size", "spans"]) (c_padded : Cal P w K mg base 1 "padded" (spV 1 rPad) []) : Cal P w K mg base 2 "map_block" (spV 2 rMap) [] := by
  refine cal_of F sc_map_block (fun _ _ _ _ h => h.1) fun f cdv A outer s H vs Q E hr h => ⟨_, (pss_cons (ps_set (i := 2) sc_map_block.nd rfl (Or.inl rfl) (pe_op op_cat (pe_lst (pa_cons (pv 0) (pa_cons (pe_callB call_len (by rfl) T.b_len PySem.boot_len (pa_cons (pv 1) pa_nil)) pa_nil))) (pe_lc2 (own := [("span", 3), ("number", 4)]) (vs1 := [4]) (g := (gName 3)) (g1 := (gName 4)) (tt := tYes) (tt1 := tYes) (wi1 := iTup K (tVar 3)) (te := tVar 4) rfl sc_map_block.nd (pi_list (pv 1)) (blkOk_by (own := [("span", 3), ("number", 4)]) (N := nm_map_block) (sc := defScope s_map_block) (by decide +kernel)) (by decide) (fun _ _ _ _ _ => (pg_name (i := 3) sc_map_block.nd rfl (Or.inl rfl))) (fun _ _ _ _ _ => pts_nil) (fun _ _ _ _ _ => (pi_tup (pv 3))) (fun _ _ _ _ _ => (pg_name (i := 4) sc_map_block.nd rfl (Or.inl rfl))) (fun _ _ _ _ _ => pts_nil) (fun _ _ _ _ _ => (pv 4)))))
    (pss_one (ps_ret (C8.pe_c c_padded hr (by decide) rfl (pa_cons (pe_m0 PySem.F.slot_str_encode PySem.F.type_str_encode mt_encode (pe_joinK (K := K) rfl pe_str (pe_lc (own := [("number", 4)]) (g := (gName 4)) (tt := tYes) rfl sc_map_block.nd (pi_list (pv 2)) (blkOk_by (own := [("number", 4)]) (N := nm_map_block) (sc := defScope s_map_block) (by decide +kernel)) (fun _ _ _ _ _ => (pg_name (i := 4) sc_map_block.nd rfl (Or.inl rfl))) (fun _ _ _ _ _ => pts_nil) (fun _ _ _ _ _ => (pe_joined (PJ.cons (pe_fmt (pv 4)) (PJ.cons pe_str PJ.nil))))))) pa_nil))))), ?_⟩
  obtain ⟨_, _, ⟨k, p, qs, rfl, hp, hS, hk, rfl⟩, q⟩ := h
  have hl : qs.length = k := by
    rw [paired_len hS]
    unfold spnI
    rw [List.length_take]
    exact Nat.min_eq_left hk
  have h1 : EvL (tLst (tCons (tVar 0) (tCons (tCB (rLen K) (tCons (tVar 1) tNil)) tNil))) (L2.start nm_map_block [V.int 9, V.ref p]) H [V.int 9, .int (k : Int)] := el_lst (ea_cons (ev_var rfl) (ea_cons (ev_is (ev_lenL (ev_var rfl) (sq_of hp)) (by rw [hl])) ea_nil)) (by show 2 ≤ 100000; decide)
  have h2 : EvL (tLc2 (iList K (tVar 1)) (gName 3) tYes (iTup K (tVar 3)) (gName 4) tYes (tVar 4) [3, 4] [4]) (L2.start nm_map_block [V.int 9, V.ref p]) H (flatS (spnI k)) := el_lc2 (ev_var rfl) hp hS (by omega) (fun _ => rfl) (fun _ => rfl) (fun _ _ => rfl) (fun _ _ => rfl)
  have h3 : EvL (tOp rCat (tLst (tCons (tVar 0) (tCons (tCB (rLen K) (tCons (tVar 1) tNil)) tNil))) (tLc2 (iList K (tVar 1)) (gName 3) tYes (iTup K (tVar 3)) (gName 4) tYes (tVar 4) [3, 4] [4])) (L2.start nm_map_block [V.int 9, V.ref p]) H ([V.int 9, .int (k : Int)] ++ flatS (spnI k)) := fun H0 e0 Q q =>
    h1 H0 e0 _ fun l H1 hl0 e1 hl1 => h2 H1 (e0.trans e1) _ fun b H2 hb0 e2 hb2 => ⟨l, b, _, _, rfl, rfl, e2 _ _ hl1, hb2, by
      have : (flatS (spnI k)).length ≤ 4 := by
        match k, hk with
        | 0, _ => decide
        | 1, _ => decide
        | 2, _ => decide
      rw [sizeLine_eq]
      simp at this ⊢
      omega, fun c hc => q c _ (fresh_back (e1.trans e2) hc) ((e1.trans e2).trans (Ex.new hc)) upd_same⟩
  refine q_asgL h3 fun l H1 hl0 e1 hl1 => ?_
  obtain ⟨ys, hy, hj, hz⟩ := map_lines hk
  have hlen : ([V.int 9, .int (k : Int)] ++ flatS (spnI k)).length ≤ 6 := by
    match k, hk with
    | 0, _ => decide
    | 1, _ => decide
    | 2, _ => decide
  have hys : EvL (tLc (iList K (tVar 2)) (gName 4) tYes (fun σ H Q => tJs [tFmt (tVar 4), tC (V.str "\n")] Str.empty σ H fun out H1 => Q (V.str out) H1) [4]) ((L2.start nm_map_block [V.int 9, V.ref p]).set 2 (some (.ref l))) H1 (ys.map V.str) := by
    rw [← hy]
    refine el_map lineV (ei_list (ev_var rfl) (sq_of hl1)) (by omega) (fun x => rfl) fun x H2 hx e2 => ?_
    obtain ⟨i, rfl, hi⟩ := mapN_small hk x hx
    have hs : (Str.ofString (toString i)).length ≤ 10 := by
      have : ∀ n : Nat, n ≤ 9 → (Str.ofString (toString (n : Int))).length ≤ 10 ∧ (Str.ofString (toString (-(n : Int)))).length ≤ 10 := by decide +kernel
      have h1 := this i.natAbs hi
      rcases Int.natAbs_eq i with e | e
      · rw [e]; exact h1.1
      · rw [e]; exact h1.2
    intro H3 e3 Q q
    have l0 : (Str.empty ++ Str.ofString (toString i)).length = (Str.ofString (toString i)).length := by
      show ((#[] : Array Nat) ++ (Str.ofString (toString i)).cps).size = (Str.ofString (toString i)).cps.size
      simp
    have l1 : (Str.empty ++ Str.ofString (toString i) ++ ("\n" : Str)).length = (Str.ofString (toString i)).length + 1 := by
      rw [← l0]
      show ((Str.empty ++ Str.ofString (toString i)).cps ++ (("\n" : Str)).cps).size = (Str.empty ++ Str.ofString (toString i)).cps.size + 1
      rw [Array.size_append]
      rfl
    have hlog : i.natAbs.log2 < 1920 := by
      have : ∀ n, n ≤ 9 → n.log2 < 1920 := by decide
      exact this _ hi
    exact ⟨_, rfl, .inr ⟨i, rfl, hlog, ⟨_, rfl, by rw [l0, sizeLine_eq]; omega, ⟨_, rfl, by rw [l1, sizeLine_eq]; omega, q H3 (Ex.refl H3)⟩⟩⟩⟩
  have e4 := ev_join (K := K) (a := "") (ev_c (v := .str "")) hys (by show _ + _ * 0 ≤ _; omega)
  have e5 := ev_enc (ev_is e4 (by rw [hj])) (mapT_asc hk) (by have := mapT_len hk; omega)
  exact s_ret (ev_callV (ea_cons e5 ea_nil) rfl fun _ _ => ⟨_, rfl, by have := mapT_len hk; rw [Tar.enc_length]; omega, rfl⟩) fun H5 e6 => q H5 (e1.trans e6)
end
end Tl
end

section
set_option Elab.async false
set_option linter.all false
set_option maxRecDepth 100000
set_option maxHeartbeats 4000000
/-! Writing: members, archives. -/
namespace Tl
open PySem PySem.Spec PyProof.Rows L2 Evl
open Tar (By)
open C8 (Cal Met Mak pe_c pe_mk pe_mt pe_mt0 pe_gc fnScope_by)
section
variable {P : Program} {w : World} {K : PySem.W.Frag} {mg : Str → Option Value} {base : Heap} {a : Ad}
abbrev rMem (a : Ad) (f : Mem → V) : List V → Hp → V → Prop := fun vs H z => ∃ p m, vs = [.ref p] ∧ MemAt a H p m ∧ m.Ok ∧ z = f m
theorem spn_pcs {k : Nat} {x y : UInt8} (h : k ≤ 2) : spnI k = (pcs k x y).map fun q => ((q.1 : Int), (q.2.length : Int)) := by
  match k, h with
  | 0, _ => rfl
  | 1, _ => rfl
  | 2, _ => rfl
theorem pcs_len {k : Nat} {x y : UInt8} (h : k ≤ 2) : (pcs k x y).length = k := by
  match k, h with
  | 0, _ => rfl
  | 1, _ => rfl
  | 2, _ => rfl
theorem pcs_sz {k : Nat} {x y : UInt8} : ∀ q ∈ pcs k x y, q.2.length ≤ 2 := fun q hq => by
  have := List.mem_of_mem_take hq
  simp at this
  rcases this with rfl | rfl
  · exact Nat.le_refl 2
  · exact (by decide : 1 ≤ 2)
abbrev nm_stored : List Str := ["member", "spans", "offset", "data"]
theorem sc_stored : FnScope nm_stored ["member"] (defScope s_stored) := fnScope_by (by decide +kernel)
theorem ok_stored (T : Txt K mg a) (M : Mcl K a) (F : DB K mg "stored" s_stored ["member"]) (c_map_block : Cal P w K mg base 2 "map_block" (spV 2 rMap) []) : Cal P w K mg base 3 "stored" (spV 1 (rMem a fun m => vB (stB m))) [] := by
  refine cal_of F sc_stored (fun _ _ _ _ h => h.1) fun f cdv A outer s H vs Q E hr h => ⟨_, (pss_one (ps_match (pe_con (pv 0) rfl) (pm_val (pss_one (ps_ret (pe_fld (pv 0) rfl)))
    (pm_val (pss_cons (ps_setLc (i := 1) (own := [("offset", 2), ("data", 3)]) (g := (gTup K 2 (gCons (gName 2) (gCons (gName 3) gNil)))) (tt := tYes) (te := tTup (tCons (tVar 2) (tCons (tCB (rLen K) (tCons (tVar 3) tNil)) tNil))) rfl sc_stored.nd rfl rfl (sw_true rfl rfl rfl (by decide +kernel)) (pi_tup (pe_fld (pv 0) rfl)) (blkOk_by (own := [("offset", 2), ("data", 3)]) (N := nm_stored) (sc := defScope s_stored) (by decide +kernel)) (fun _ _ _ _ _ => (pg_tup rfl (pgs_cons (pg_name (i := 2) sc_stored.nd rfl (Or.inl rfl)) (pgs_cons (pg_name (i := 3) sc_stored.nd rfl (Or.inl rfl)) pgs_nil)))) (fun _ _ _ _ _ => pts_nil) (fun _ _ _ _ _ => (pe_tup (pa_cons (pv 2) (pa_cons (pe_callB (lenK (K := K) rfl) (by rfl) T.b_len PySem.boot_len (pa_cons (pv 3) pa_nil)) pa_nil)))))
    (pss_one (ps_ret (pe_op op_add_byt (C8.pe_c c_map_block hr (by decide) rfl (pa_cons (pe_fld (pv 0) rfl) (pa_cons (pv 1) pa_nil))) (pe_bb R59.slot_bjoin R59.type_bjoin mt_bjoin pe_byt (pa_cons (pe_lc (own := [("offset", 2), ("data", 3)]) (g := (gTup K 2 (gCons (gName 2) (gCons (gName 3) gNil)))) (tt := tYes) (te := tVar 3) rfl sc_stored.nd (pi_tup (pe_fld (pv 0) rfl)) (blkOk_by (own := [("offset", 2), ("data", 3)]) (N := nm_stored) (sc := defScope s_stored) (by decide +kernel)) (fun _ _ _ _ _ => (pg_tup rfl (pgs_cons (pg_name (i := 2) sc_stored.nd rfl (Or.inl rfl)) (pgs_cons (pg_name (i := 3) sc_stored.nd rfl (Or.inl rfl)) pgs_nil)))) (fun _ _ _ _ _ => pts_nil) (fun _ _ _ _ _ => (pv 3))) pa_nil))))))
    (pm_any (pss_one (ps_ret (pe_callTy0 call_bytes0 (by rfl) T.b_bytes (by decide +kernel))))))))), ?_⟩
  obtain ⟨_, _, ⟨p, m, rfl, hm, ho, rfl⟩, q⟩ := h
  have Ap := M.ap
  refine s_match (ev_kind M hm (ev_var rfl)) fun H1 e1 => ?_
  have hm1 := hm.mono Ap (ExT.of e1)
  cases m with
  | fil n mo ti d => exact case_hit rfl (s_ret (ev_mem M hm1 (ev_var rfl) (.tail _ (.tail _ (.tail _ (.tail _ (.head _))))) fun _ _ _ _ => rfl) fun H2 e2 => q H2 (e1.trans e2))
  | dir n mo ti => exact case_miss (show ¬ ("directory" : Str) = "file" by decide) (case_miss (show ¬ ("directory" : Str) = "sparse" by decide) (s_ret (ev_cb ea_nil fun H2 _ Q q => ⟨rfl, q H2 (Ex.refl H2)⟩) fun H2 e2 => q H2 (e1.trans e2)))
  | sym n mo ti g => exact case_miss (show ¬ ("symlink" : Str) = "file" by decide) (case_miss (show ¬ ("symlink" : Str) = "sparse" by decide) (s_ret (ev_cb ea_nil fun H2 _ Q q => ⟨rfl, q H2 (Ex.refl H2)⟩) fun H2 e2 => q H2 (e1.trans e2)))
  | lnk n mo ti g => exact case_miss (show ¬ ("link" : Str) = "file" by decide) (case_miss (show ¬ ("link" : Str) = "sparse" by decide) (s_ret (ev_cb ea_nil fun H2 _ Q q => ⟨rfl, q H2 (Ex.refl H2)⟩) fun H2 e2 => q H2 (e1.trans e2)))
  | spa n mo ti k x y =>
    refine case_miss (show ¬ ("sparse" : Str) = "file" by decide) (case_hit rfl ?_)
    have hk : k ≤ 2 := ho.2
    have hm1' := hm1
    obtain ⟨dx, key, pt, h1, h2, qs, h3, h4⟩ := hm1
    have hlen := (paired_len h4).trans (pcs_len hk)
    have hp : ∀ {σ : L2.St} {H2 : Hp}, Ex H1 H2 → σ[0]? = some (some (.ref p)) → Ev (tFld K (tVar 0) "pieces") σ H2 (.ref pt) := fun e hs => ev_fld (ev_var hs) (e _ _ h1) (M.at (.spa n mo ti k x y)).1 ((M.at (.spa n mo ti k x y)).2 "pieces" (.tail _ (.tail _ (.tail _ (.tail _ (.tail _ (.head _))))))) rfl
    have hs : ∀ {σ : L2.St} {H2 : Hp}, Ex H1 H2 → σ[0]? = some (some (.ref p)) → Ev (tFld K (tVar 0) "size") σ H2 (.int 9) := fun e hs => ev_fld (ev_var hs) (e _ _ h1) (M.at (.spa n mo ti k x y)).1 ((M.at (.spa n mo ti k x y)).2 "size" (.tail _ (.tail _ (.tail _ (.tail _ (.head _)))))) rfl
    have hN : EvN (tLc (iTup K (tFld K (tVar 0) "pieces")) (gTup K 2 (gCons (gName 2) (gCons (gName 3) gNil))) tYes (tTup (tCons (tVar 2) (tCons (tCB (rLen K) (tCons (tVar 3) tNil)) tNil))) [2, 3]) (L2.start nm_stored [.ref p]) H1 (Itm qs.length fun i y' H' => ∃ q b, (pcs k x y)[i]? = some q ∧ y' = V.ref b ∧ H' b = some (HO.tup [.int q.1, .int (q.2.length : Int)])) := by
      refine ep_lc _ ?_ (ei_tup (hp (Ex.refl _) rfl) (st_of h3)) (by omega) ex_at ?_
      · rintro i v H1 H2 e ⟨q, b, h1, h2, h3⟩
        exact ⟨q, b, h1, h2, e _ _ h3 fun xs z => by cases z⟩
      · rintro i x H2 H3 hi e ⟨rfl, hx⟩
        obtain ⟨q, hs, hqa⟩ := paired_get h4 hx
        obtain ⟨b, rfl, hbt⟩ := hqa.mono (a := a) (ExT.of e)
        have z := pcs_sz q (List.mem_of_getElem? hs)
        refine turn_pair hbt rfl (EvP.imp (EvU.p (eu_tup (ea_cons (ev_var rfl) (ea_cons (ev_lenB (l := q.2.toArray) (ev_var rfl) (by rw [List.size_toArray]; omega)) ea_nil)) (by simp))) ?_)
        rintro v H3 e3 ⟨c, rfl, hc⟩
        exact ⟨q, c, hs, rfl, by rw [hc, List.size_toArray]⟩
    refine q_asgP hN.p ?_
    rintro v H2 e2 ⟨l, ys, rfl, hl0, hl, hys, hit⟩
    have hL : EvL (tLc (iTup K (tFld K (tVar 0) "pieces")) (gTup K 2 (gCons (gName 2) (gCons (gName 3) gNil))) tYes (tVar 3) [2, 3]) ((L2.start nm_stored [.ref p]).set 1 (some (.ref l))) H2 (((pcs k x y).map (·.2)).map vB) := by
      refine EvN.toL ((ep_lc (fun i y' _ => ∃ q, (pcs k x y)[i]? = some q ∧ y' = vB q.2) (fun i v H1 H2 e h => h) (ei_tup (hp e2 rfl) (st_of (e2 _ _ h3))) (by omega) ex_at ?_).imp ?_)
      · rintro i x H3 H4 hi e ⟨rfl, hx⟩
        obtain ⟨q, hs, hqa⟩ := paired_get h4 hx
        obtain ⟨b, rfl, hbt⟩ := hqa.mono (a := a) (ExT.of (e2.trans e))
        exact turn_pair hbt rfl (EvP.imp (ev_p (ev_var rfl)) fun v H3 e3 hv => ⟨q, hs, hv⟩)
      · rintro zs H3 e3 ⟨hz, hi⟩
        refine List.ext_getElem? fun i => ?_
        rw [List.getElem?_map, List.getElem?_map]
        by_cases hlt : i < qs.length
        · obtain ⟨q, h5, h6⟩ := hi i zs[i] (by simp [hz, hlt])
          rw [h5, List.getElem?_eq_getElem (by omega), h6]
          rfl
        · rw [List.getElem?_eq_none (by omega), List.getElem?_eq_none (by rw [pcs_len hk]; omega)]
          rfl
    have hS : Paired (SpAt H2) ys (spnI k) := by
      rw [spn_pcs (x := x) (y := y) hk]
      refine paired_of (by rw [List.length_map, hys, pcs_len hk, hlen]) fun i v s h1 h2 => ?_
      obtain ⟨q, b, h3, rfl, h5⟩ := hit i v h1
      rw [List.getElem?_map, h3] at h2
      cases Option.some.inj h2
      exact ⟨b, rfl, h5⟩
    have hfl : ((pcs k x y).map (·.2)).flatten.length ≤ 3 := by
      have := pcD_len (x := x) (y := y) hk
      unfold pcD at this
      rw [this]
      split <;> omega
    refine s_ret (v := vB (mapB k ++ pcD k x y)) (ev_catB (ev_callV (ea_cons (hs e2 rfl) (ea_cons (ev_var rfl) ea_nil)) rfl fun H3 e3 => ⟨k, l, ys, rfl, e3 _ _ hl, L2.Paired.mapP hS fun _ _ z => (let ⟨b, h1, h2⟩ := z; ⟨b, h1, e3 _ _ h2⟩), hk, rfl⟩) (ev_joinB ev_c hL (by omega)) ?_) fun H3 e3 => q H3 ((e1.trans e2).trans e3)
    rw [mapB_length hk]
    show 512 + ((pcs k x y).map (·.2)).flatten.length ≤ _
    omega
abbrev nm_long_part : List Str := ["kind", "text"]
theorem sc_long_part : FnScope nm_long_part ["kind", "text"] (defScope s_long_part) := fnScope_by (by decide +kernel)
abbrev rLP : List V → Hp → V → Prop := fun vs _ z => ∃ (c : V) (t : List Nat), vs = [c, vS t] ∧ t.length ≤ 100 ∧ z = vB []
theorem ok_long_part (T : Txt K mg a) (F : DB K mg "long_part" s_long_part ["kind", "text"]) (c_is_short : Cal P w K mg base 1 "is_short" (spV 1 rShort) []) : Cal P w K mg base 2 "long_part" (spV 2 rLP) [] := by
  refine cal_of F sc_long_part (fun _ _ _ _ h => h.1) fun f cdv A outer s H vs Q E hr h => ⟨_, (pss_cons (ps_if (pt_val (C8.pe_c c_is_short hr (by decide) rfl (pa_cons (pv 1) pa_nil))) (pss_one (ps_ret (pe_callTy0 call_bytes0 (by rfl) T.b_bytes (by decide +kernel)))) pss_nil)
    (pss_one ps_neverR)), ?_⟩
  obtain ⟨_, _, ⟨c, t, rfl, ht, rfl⟩, q⟩ := h
  exact q_when (et_B (ev_callV (ea_cons (ev_var rfl) ea_nil) rfl fun _ _ => ⟨t, rfl, ht, rfl⟩)) (fun _ H1 e1 => s_ret (ev_cb ea_nil fun H2 _ Q q => ⟨rfl, q H2 (Ex.refl H2)⟩) fun H2 e2 => q H2 (e1.trans e2)) fun z => nomatch z
abbrev nm_target_text : List Str := ["member"]
theorem sc_target_text : FnScope nm_target_text ["member"] (defScope s_target_text) := fnScope_by (by decide +kernel)
theorem ok_target_text (T : Txt K mg a) (M : Mcl K a) (F : DB K mg "target_text" s_target_text ["member"]) : Cal P w K mg base 1 "target_text" (spV 1 (rMem a fun m => vS (tgOf m))) [] := by
  refine cal_of F sc_target_text (fun _ _ _ _ h => h.1) fun f cdv A outer s H vs Q E hr h => ⟨_, (pss_one (ps_ret (pe_ifExp (pt_cmpR op_in_seq (pe_con (pv 0) rfl) (pe_tup (pa_cons pe_str (pa_cons pe_str pa_nil))) (by rfl)) (pe_fld (pv 0) rfl) pe_str))), ?_⟩
  obtain ⟨_, _, ⟨p, m, rfl, hm, ho, rfl⟩, q⟩ := h
  refine s_ret ?_ fun H1 e1 => q H1 e1
  have ht : EvT (tTest (tOp (rIn K false) (tCon K (tVar 0) "KIND") (tTup (tCons (tC (.str "symlink")) (tCons (tC (.str "link")) tNil))))) (L2.start nm_target_text [.ref p]) H (inV (.str m.kd) [.str "symlink", .str "link"]) := et_test (ev_inU (ev_kind M hm (ev_var rfl)) (eu_tup (ea_cons ev_c (ea_cons ev_c ea_nil)) (by show 2 ≤ 100000; decide)) rfl rfl)
  refine ev_if ht (fun hb => ?_) (fun hb => ?_)
  · cases m with
    | fil n mo ti d => exact absurd (show inV (V.str "file") [.str "symlink", .str "link"] = true from hb) (by decide +kernel)
    | spa n mo ti k x y => exact absurd (show inV (V.str "sparse") [.str "symlink", .str "link"] = true from hb) (by decide +kernel)
    | dir n mo ti => exact absurd (show inV (V.str "directory") [.str "symlink", .str "link"] = true from hb) (by decide +kernel)
    | sym n mo ti g => exact ev_mem M hm (ev_var rfl) (.tail _ (.tail _ (.tail _ (.tail _ (.head _))))) fun _ _ _ _ => rfl
    | lnk n mo ti g => exact ev_mem M hm (ev_var rfl) (.tail _ (.tail _ (.tail _ (.tail _ (.head _))))) fun _ _ _ _ => rfl
  · cases m with
    | fil n mo ti d => exact ev_c
    | spa n mo ti k x y => exact ev_c
    | dir n mo ti => exact ev_c
    | sym n mo ti g => exact absurd (show inV (V.str "symlink") [.str "symlink", .str "link"] = false from hb) (by decide +kernel)
    | lnk n mo ti g => exact absurd (show inV (V.str "link") [.str "symlink", .str "link"] = false from hb) (by decide +kernel)
/-- the table LETTERS_OF -/
structure LetF (K : PySem.W.Frag) (w : World) (a : Ad) : Prop where
  fil : KDct K w a.aLET "file" (vS [48])
  spa : KDct K w a.aLET "sparse" (vS [83])
  dir : KDct K w a.aLET "directory" (vS [53])
  sym : KDct K w a.aLET "symlink" (vS [50])
  lnk : KDct K w a.aLET "link" (vS [49])
theorem LetF.at (L : LetF K w a) (m : Mem) : KDct K w a.aLET m.kd (vS [kc m]) := by
  cases m
  · exact L.fil
  · exact L.spa
  · exact L.dir
  · exact L.sym
  · exact L.lnk
abbrev nm_bytes_of : List Str := ["member", "data", "target", "own"]
theorem sc_bytes_of : FnScope nm_bytes_of ["member"] (defScope s_bytes_of) := fnScope_by (by decide +kernel)
theorem ok_bytes_of (T : Txt K mg a) (M : Mcl K a) (L : LetF K w a) (F : DB K mg "bytes_of" s_bytes_of ["member"]) (c_stored : Cal P w K mg base 3 "stored" (spV 1 (rMem a fun m => vB (stB m))) []) (c_target_text : Cal P w K mg base 1 "target_text" (spV 1 (rMem a fun m => vS (tgOf m))) [])
    (c_header : CalI P w K mg base 3 "header" kwH spHdr) (c_long_part : Cal P w K mg base 2 "long_part" (spV 2 rLP) []) (c_padded : Cal P w K mg base 1 "padded" (spV 1 rPad) []) : Cal P w K mg base 4 "bytes_of" (spV 1 (rMem a fun m => vB (mB m))) [] := by
  refine cal_of F sc_bytes_of (fun _ _ _ _ h => h.1) fun f cdv A outer s H vs Q E hr h => ⟨_, (pss_cons (ps_par (i := 1) (j := 2) (by rfl) sc_bytes_of.nd rfl rfl (by decide) rfl rfl (pa_cons (C8.pe_c c_stored hr (by decide) rfl (pa_cons (pv 0) pa_nil)) (pa_cons (C8.pe_c c_target_text hr (by decide) rfl (pa_cons (pv 0) pa_nil)) pa_nil)) (by rfl))
    (pss_cons (ps_set (i := 3) sc_bytes_of.nd rfl (Or.inl rfl) (pe_ci c_header hr (by decide) rfl (pa_cons (pe_ix ix_kdict (pe_gc rfl T.g_LETTERS_OF) (pe_con (pv 0) rfl) (fun _ _ => rfl)) (pa_cons (pe_fld (pv 0) rfl) pa_nil)) (pk_cons (pe_fld (pv 0) rfl) (pk_cons (pe_callB call_len (by rfl) T.b_len PySem.boot_len (pa_cons (pv 1) pa_nil)) (pk_cons (pe_fld (pv 0) rfl) (pk_cons (pv 2) pk_nil))))))
    (pss_one (ps_ret (pe_op op_add_byt (pe_op op_add_byt (pe_op op_add_byt (C8.pe_c c_long_part hr (by decide) rfl (pa_cons pe_str (pa_cons (pv 2) pa_nil))) (C8.pe_c c_long_part hr (by decide) rfl (pa_cons pe_str (pa_cons (pe_fld (pv 0) rfl) pa_nil)))) (pv 3)) (C8.pe_c c_padded hr (by decide) rfl (pa_cons (pv 1) pa_nil))))))), ?_⟩
  obtain ⟨_, _, ⟨p, m, rfl, hm, ho, rfl⟩, q⟩ := h
  have Ap := M.ap
  have hh := hdOk ho
  have hsl := stB_len ho
  have hnl := hh.nl
  have htp := hh.tp
  have hpd := pad_length (stB m)
  refine q_par (ev_p (ev_callV (z := vB (stB m)) (ea_cons (ev_var rfl) ea_nil) rfl fun H1 e1 => ⟨p, m, rfl, hm.mono Ap (ExT.of e1), ho, rfl⟩)) (fun x H1 e1 px => ev_p (ev_callV (z := vS (tgOf m)) (ea_cons (ev_var rfl) ea_nil) rfl fun H2 e2 => ⟨p, m, rfl, hm.mono Ap (ExT.of (e1.trans e2)), ho, rfl⟩)) fun x y H1 H2 e1 e2 px py => ?_
  subst px
  subst py
  have hm2 := hm.mono Ap (ExT.of (e1.trans e2))
  have lts : ∀ {σ : L2.St}, σ[0]? = some (some (.ref p)) → Ev (tOp (rIxD K w) (tC (.ref a.aLET)) (tCon K (tVar 0) "KIND")) σ H2 (vS [kc m]) := fun hs => ev_op ev_c (ev_kind M hm2 (ev_var hs)) (rv_val fun H4 _ Q q => ⟨_, _, _, rfl, rfl, L.at m, q⟩)
  refine q_asg (v := vB (hdB m)) ?_ fun H3 e3 => ?_
  · intro H3 e3 Q3 q3
    have hm3 := hm2.mono Ap (ExT.of e3)
    refine (ea_cons (lts rfl) (ea_cons (ev_name M hm2 (ev_var rfl)) ea_nil)) H3 e3 _ fun H4 e4 => ?_
    have hm4 := hm3.mono Ap (ExT.of e4)
    refine (ea_cons (ev_mode M hm4 (ev_var rfl)) (ea_cons (ev_len8 (ev_var rfl) (by omega)) (ea_cons (ev_time M hm4 (ev_var rfl)) (ea_cons (ev_var rfl) ea_nil)))) H4 (Ex.refl H4) _ fun H5 e5 => ⟨rfl, ?_⟩
    have b := ho.base
    exact ⟨kc m, m.nm, m.mo, (stB m).length, m.ti, tgOf m, rfl, rfl, by have := hh.k5; omega, (names_Pr (labels_names b.nm)).asc, by omega, htp.1.asc, by omega, by have := b.mo; omega, by omega, by have := b.ti; omega, fun H6 e6 => q3 H6 ((e4.trans e5).trans e6)⟩
  · have hm3 := hm2.mono Ap (ExT.of e3)
    have hl := hh.len
    refine s_ret (v := vB (mB m)) ?_ fun H4 e4 => q H4 (((e1.trans e2).trans e3).trans e4)
    refine ev_catB (l := [] ++ [] ++ hdB m) (m := pad (stB m)) (ev_catB (l := [] ++ []) (ev_catB (l := []) (m := []) (ev_callV (ea_cons ev_c (ea_cons (ev_var rfl) ea_nil)) rfl fun _ _ => ⟨_, tgOf m, rfl, by omega, rfl⟩) (ev_callV (ea_cons ev_c (ea_cons (ev_name M hm3 (ev_var rfl)) ea_nil)) rfl fun _ _ => ⟨_, m.nm, rfl, by omega, rfl⟩) (by decide)) (ev_var rfl) ?_) (ev_callV (ea_cons (ev_var rfl) ea_nil) rfl fun _ _ => ⟨_, rfl, by omega, rfl⟩) ?_
    · show 0 + (hdB m).length ≤ _
      unfold hdB
      omega
    · show (hdB m).length + (pad (stB m)).length ≤ _
      unfold hdB
      omega
abbrev nm_written : List Str := ["members", "member"]
theorem sc_written : FnScope nm_written ["members"] (defScope s_written) := fnScope_by (by decide +kernel)
theorem ok_written (T : Txt K mg a) (M : Mcl K a) (F : DB K mg "written" s_written ["members"]) (c_bytes_of : Cal P w K mg base 4 "bytes_of" (spV 1 (rMem a fun m => vB (mB m))) []) : Cal P w K mg base 5 "written" (spV 1 fun vs H z => ∃ l xs ms, vs = [.ref l] ∧ H l = some (.lst xs) ∧ MsA a H xs ms ∧ (∀ m ∈ ms, m.Ok) ∧ ms.length ≤ 20 ∧ z = vB (arcB ms)) [] := by
  refine cal_of F sc_written (fun _ _ _ _ h => h.1) fun f cdv A outer s H vs Q E hr h => ⟨_, (pss_one (ps_ret (pe_op op_add_byt (pe_bb R59.slot_bjoin R59.type_bjoin mt_bjoin pe_byt (pa_cons (pe_lc (own := [("member", 1)]) (g := (gName 1)) (tt := tYes) rfl sc_written.nd (pi_list (pv 0)) (blkOk_by (own := [("member", 1)]) (N := nm_written) (sc := defScope s_written) (by decide +kernel)) (fun _ _ _ _ _ => (pg_name (i := 1) sc_written.nd rfl (Or.inl rfl))) (fun _ _ _ _ _ => pts_nil) (fun _ _ _ _ _ => (C8.pe_c c_bytes_of hr (by decide) rfl (pa_cons (pv 1) pa_nil)))) pa_nil)) (pe_callTy call_bytesN (by rfl) T.b_bytes (by decide +kernel) (pa_cons (pe_gc rfl T.g_END_SIZE) pa_nil))))), ?_⟩
  obtain ⟨_, _, ⟨l, xs, ms, rfl, hl, hx, hok, hn, rfl⟩, q⟩ := h
  have hlen := paired_len hx
  have hL : EvL (tLc (iList K (tVar 0)) (gName 1) tYes (tCall (spV 1 (rMem a fun m => vB (mB m))) [] C8.E0 (tCons (tVar 1) tNil)) [1]) (L2.start nm_written [.ref l]) H ((ms.map mB).map vB) := by
    have h := el_lc (te := tCall (spV 1 (rMem a fun m => vB (mB m))) [] C8.E0 (tCons (tVar 1) tNil)) (σ := L2.start nm_written [.ref l]) (H := H) (vs := [1]) (j := 1) (fun i => (ms[i]?).elim V.non fun m => vB (mB m)) (ei_list (K := K) (ev_var (i := 0) rfl) (sq_of hl)) (by omega) ex_at (fun x => rfl) fun i x H1 H2 hi e hy => by
      obtain ⟨rfl, hy⟩ := hy
      obtain ⟨m, hm, b, rfl, hb⟩ := paired_get hx hy
      refine ev_callV (ea_cons (ev_var rfl) ea_nil) rfl fun H3 e3 => ⟨b, m, rfl, hb.mono M.ap (ExT.of (e.trans e3)), hok m (List.mem_of_getElem? hm), ?_⟩
      rw [hm]
      rfl
    rw [hlen] at h
    rw [map_range (xs := ms) (g := fun m => vB (mB m)) fun i x hx => by rw [hx]; rfl] at h
    rw [List.map_map]
    exact h
  have hfl := flat_le hok
  refine s_ret (v := vB (arcB ms)) (ev_catB (ev_joinB ev_c hL (by omega)) (ev_zeros (n := 1024) (ev_c (v := .int 1024)) rfl (by decide)) (by rw [Tar.zs_length]; omega)) fun H1 e1 => q H1 e1
end
end Tl
end

section
set_option Elab.async false
set_option linter.all false
set_option maxRecDepth 100000
set_option maxHeartbeats 4000000
/-! Reading: what stands at a place. -/
namespace Tl
open PySem PySem.Spec PyProof.Rows L2 Evl
open Tar (By)
open C8 (Cal Met Mak pe_c pe_mk pe_mt pe_mt0 pe_gc fnScope_by)
section
variable {P : Program} {w : World} {K : PySem.W.Frag} {mg : Str → Option Value} {base : Heap} {a : Ad}
abbrev nm_torn : List Str := ["offset"]
theorem sc_torn : FnScope nm_torn ["offset"] (defScope s_torn) := fnScope_by (by decide +kernel)
/-- no member -/
def NoM (v : V) (H : Hp) : Prop := ∃ t e x, v = .ref t ∧ H t = some (.tup [.non, e, x])
abbrev rTorn : List V → Hp → (V → Hp → Prop) → Prop := fun vs _ Pz => ∃ i : Int, vs = [.int i] ∧ ∀ v H', NoM v H' → Pz v H'
theorem ok_torn (T : Txt K mg a) (F : DB K mg "torn" s_torn ["offset"]) : Cal P w K mg base 1 "torn" (spP 1 rTorn) [] := by
  refine cal_of F sc_torn (fun _ _ _ _ h => h.1) fun f cdv A outer s H vs Q E hr h => ⟨_, (pss_one (ps_ret (pe_tup (pa_cons pe_non (pa_cons (pv 0) (pa_cons (pe_tup (pa_cons pe_str (pa_cons (pv 0) pa_nil))) pa_nil)))))), ?_⟩
  obtain ⟨_, _, ⟨i, rfl, hP⟩, q⟩ := h
  refine s_retP (P := fun v H' => NoM v H') ?_ fun v H1 e1 h => q v H1 e1 (hP v H1 h)
  intro H0 e0 Q2 q2
  refine ⟨.int i, rfl, (eu_tup (ea_cons ev_c (ea_cons (ev_var rfl) ea_nil)) (by show 2 ≤ 100000; decide)) H0 e0 _ fun t H1 _ e1 h1 => ⟨by show 3 ≤ sizeLine; rw [sizeLine_eq]; decide, fun p hp => q2 _ _ (e1.trans (Ex.new hp)) ⟨p, _, _, rfl, upd_same⟩⟩⟩
theorem go_mk {σ : L2.St} {H : Hp} {C : Addr} {m : Nat} {sp : SpI} {t tk : TA} {vs zs : List V} {Q : VK} (h1 : EvA t σ H vs) (h2 : EvA tk σ H zs) (hm : zs.length = m) (k : ∀ H2 x dx, Ex H H2 → H2 x = none → H2 dx = none → dx ≠ x → sp (.ref x :: vs) zs (upd (upd H2 dx (.own x)) x (.ins C dx [])) (fun v H3 => v = .non ∧ Q (.ref x) H3)) : tMakeI C m sp t tk σ H Q :=
  h1 H (Ex.refl H) _ fun H1 e1 => h2 H1 e1 _ fun H2 e2 => ⟨hm, fun x dx hx hdx hn => k H2 x dx (e1.trans e2) hx hdx hn⟩
theorem ea_starL {σ : L2.St} {H : Hp} {te : TE} {q : Addr} {xs : List V} (h : Ev te σ H (.ref q)) (hq : SqL K H q xs) : EvA (StX.tStar K te tNil) σ H xs := fun H1 e Q k => h H1 e _ fun H2 e2 => ⟨q, xs, rfl, Or.inr (ex_l (e.trans e2) hq), by
  show Q (xs ++ []) H2
  rw [List.append_nil]
  exact k H2 e2⟩
abbrev nm_sparse : List Str := ["name", "found", "data", "mode", "time", "size", "spans", "pieces", "begin", "offset", "length"]
theorem sc_sparse : FnScope nm_sparse ["name", "found", "data", "mode", "time"] (defScope s_sparse) := fnScope_by (by decide +kernel)
theorem mk_ex {H2 H' : Hp} {x dx C : Addr} (hx : H2 x = none) (hdx : H2 dx = none) (e : ExB x (upd (upd H2 dx (.own x)) x (.ins C dx [])) H') : Ex H2 H' := fun p o hp => by
  have h1 : p ≠ x := fun z => by rw [z, hx] at hp; cases hp
  have h2 : p ≠ dx := fun z => by rw [z, hdx] at hp; cases hp
  exact e p o (by rw [upd_ne h1, upd_ne h2]; exact hp) h1
theorem flat_at {L : List By} {i : Nat} {x : By} (h : L[i]? = some x) : (L.flatten.drop (L.take i).flatten.length).take x.length = x ∧ (L.take i).flatten.length + x.length ≤ L.flatten.length ∧ (L.take (i + 1)).flatten.length = (L.take i).flatten.length + x.length := by
  have hi : i < L.length := by
    rcases Nat.lt_or_ge i L.length with h1 | h1
    · exact h1
    · rw [List.getElem?_eq_none h1] at h
      cases h
  have e : L = L.take i ++ (x :: L.drop (i + 1)) := by
    have hx : L[i] = x := by
      rw [List.getElem?_eq_getElem hi] at h
      exact Option.some.inj h
    rw [← hx, ← List.drop_eq_getElem_cons hi, List.take_append_drop]
  have e2 : L.flatten = (L.take i).flatten ++ (x ++ (L.drop (i + 1)).flatten) := by
    conv => lhs; rw [e]
    rw [List.flatten_append, List.flatten_cons]
  refine ⟨?_, ?_, ?_⟩
  · rw [e2, List.drop_left, List.take_left]
  · rw [e2, List.length_append, List.length_append]
    omega
  · rw [List.take_add_one, h, List.flatten_append, List.length_append]
    simp
abbrev kwM : List Str := ["mode", "time"]
def spSp (a : Ad) : SpI := fun vs zs H Q => ∃ (nm : List Nat) (f l : Addr) (qs : List V) (k : Nat) (x y : UInt8) (mo ti : Nat), vs = [vS nm, .ref f, vB (pcD k x y)] ∧ zs = [vN mo, vN ti] ∧ H f = some (.tup [.int 9, .ref l]) ∧ H l = some (.lst qs) ∧ Paired (SpAt H) qs (spnI k) ∧ k ≤ 2 ∧ Mem.Base nm mo ti ∧
  ∀ p H', Ex H H' → MemAt a H' p (.spa nm mo ti k x y) → Q (.ref p) H'
theorem ok_sparse (T : Txt K mg a) (M : Mcl K a) (F : DBI K mg "sparse" s_sparse ["name", "found", "data", "mode", "time"] kwM) (c_Sparse : MakI P w K mg base 4 "Sparse" a.cSparse kwM (spSparse a)) : CalI P w K mg base 6 "sparse" kwM (spSp a) := by
  refine cali_of F sc_sparse (fun vs zs H Q h => by obtain ⟨_, _, _, _, _, _, _, _, _, rfl, _⟩ := h; rfl) fun f cdv A outer s H vs zs Q E hr h => ⟨_, (pss_cons (ps_asg (pv 1) (pg_tup rfl (pgs_cons (pg_name (i := 5) sc_sparse.nd rfl (Or.inl rfl)) (pgs_cons (pg_name (i := 6) sc_sparse.nd rfl (Or.inl rfl)) pgs_nil))))
    (pss_cons (ps_par (i := 7) (j := 8) (by rfl) sc_sparse.nd rfl rfl (by decide) rfl rfl (pa_cons (pe_lst pa_nil) (pa_cons pe_int pa_nil)) (by rfl))
    (pss_cons (ps_for PassesOwn.never rfl (pi_list (pv 6)) (pg_tup rfl (pgs_cons (pg_name (i := 9) sc_sparse.nd rfl (Or.inl rfl)) (pgs_cons (pg_name (i := 10) sc_sparse.nd rfl (Or.inl rfl)) pgs_nil))) (pss_cons (ps_expr (pe_bm PySem.F.plainAttrs_list PySem.F.slot_list_append PySem.F.type_list_append mt_append (pv 7) (pa_cons (pe_tup (pa_cons (pv 9) (pa_cons (pe_slice sl_byt (pv 2) (po_some (pv 8)) (po_some (pe_op op_add (pv 8) (pv 10)))) pa_nil))) pa_nil)))
    (pss_one (ps_aug (i := 8) sc_sparse.nd rfl (Or.inl rfl) (pv 10) ip_add))))
    (pss_one (ps_ret (pe_mkiS c_Sparse hr (by decide) rfl (pa_cons (pv 0) (pa_cons (pv 5) (StX.pa_star (pv 7) pa_nil))) (pk_cons (pv 3) (pk_cons (pv 4) pk_nil)))))))), ?_⟩
  obtain ⟨nm, fo, l, qs, k, x, y, mo, ti, rfl, rfl, hf, hl, hS, hk, hB, q⟩ := h
  refine ⟨.ref fo, rfl, fo, _, rfl, st_of hf, rfl, _, _, rfl, _, _, rfl, rfl, ?_⟩
  refine q_par (ep_newL (H := H)) (fun x H1 e1 px => ev_p ev_c) fun xv yv H1 H2 e1 e2 px py => ?_
  obtain ⟨pl, rfl, hpl0, hpl⟩ := px
  subst py
  refine q_forL (ev_var rfl) (sq_of ((e1.trans e2) _ _ hl)) (fun i σ' H' => i ≤ k ∧ (∃ u v, σ' = [some (vS nm), some (.ref fo), some (vB (pcD k x y)), some (vN mo), some (vN ti), some (.int 9), some (.ref l), some (.ref pl), some (vN (((pcs k x y).map (·.2)).take i).flatten.length), u, v]) ∧ Ex H H' ∧ ∃ ps, H' pl = some (.lst ps) ∧ PcsAt H' ps ((pcs k x y).take i) ∧ ps.length ≤ i)
    (fun H3 e3 => ⟨Nat.zero_le _, ⟨none, none, rfl⟩, (e1.trans e2).trans e3, [], e3 _ _ (e2 _ _ hpl), by rw [List.take_zero]; exact .nil, Nat.le_refl _⟩) (fun i σ' H' _ h => sq_of (h.2.2.1 _ _ hl)) ?_ ?_
  · rintro i xv σ' H' hx ⟨hi, ⟨u, v, rfl⟩, e3, ps, h1, h2, h3⟩
    obtain ⟨s1, hs1, b, rfl, hb⟩ := paired_get hS hx
    rw [spn_pcs (x := x) (y := y) hk, List.getElem?_map] at hs1
    obtain ⟨pc, hpc, rfl⟩ := Option.map_eq_some_iff.mp hs1
    have hlt : i < k := by
      rcases Nat.lt_or_ge i k with z | z
      · exact z
      · rw [List.getElem?_eq_none (by rw [pcs_len hk]; exact z)] at hpc
        cases hpc
    obtain ⟨f1, f2, f3⟩ := flat_at (L := (pcs k x y).map (·.2)) (i := i) (x := pc.2) (by rw [List.getElem?_map, hpc]; rfl)
    have hsz := pcD_len (x := x) (y := y) hk
    unfold pcD at hsz
    have hsz2 : ((pcs k x y).map (·.2)).flatten.length ≤ 3 := by
      rw [hsz]
      split <;> omega
    refine ⟨b, _, rfl, st_of (e3 _ _ hb), rfl, _, _, rfl, _, _, rfl, rfl, ?_⟩
    generalize hn : (((pcs k x y).map (·.2)).take i).flatten.length = n at *
    refine q_appU h1 (ev_var rfl) (ys := [vN pc.1, vB pc.2]) (eu_tup (ea_cons (ev_var rfl) (ea_cons (ev_is (ev_slB (l := pcD k x y) (i := n) (j := n + pc.2.length) (ev_var rfl) (eo_some (ev_var rfl)) (eo_some (ev_is (ev_I (g := fun i j => i + j) (ev_var rfl) (ev_var rfl)) rfl)) (by unfold pcD; omega) (by omega) (by unfold pcD; omega)) (by
      unfold pcD
      rw [Nat.add_sub_cancel_left, f1])) ea_nil)) (by show 2 ≤ 100000; decide)) (by omega) fun t H4 ht e4 h4 => ?_
    have e5 : Ex H (upd H4 pl (.lst (ps ++ [.ref t]))) := Ex.mut (e3.trans e4) hpl0
    refine s_aug (i := 8) (a := (n : Int)) (b := (pc.2.length : Int)) rfl (ev_var rfl) fun H5 e6 => ⟨by omega, ⟨some (vN pc.1), some (vN pc.2.length), ?_⟩, e5.trans e6, _, e6 _ _ upd_same, ?_, by rw [List.length_append]; show ps.length + 1 ≤ _; omega⟩
    · rw [f3]
      rfl
    · rw [List.take_add_one, hpc]
      have st : ExT a H' (upd H4 pl (.lst (ps ++ [.ref t]))) := (ExT.of e4).trans (ExT.put (e4 _ _ h1) stay_lst)
      refine PcsAt.mono (ExT.of (a := a) e6) (paired_app (h2.mono (a := a) st) (.cons ⟨t, rfl, ?_⟩ .nil))
      rw [upd_ne (fun z => by rw [z, e4 _ _ h1] at h4; cases h4)]
      exact h4
  · rintro σ' H' ⟨hi, ⟨u, v, rfl⟩, e3, ps, h1, h2, h3⟩
    have hlen : qs.length = k := by
      rw [paired_len hS]
      unfold spnI
      rw [List.length_take]
      exact Nat.min_eq_left hk
    rw [hlen, List.take_of_length_le (Nat.le_of_eq (pcs_len hk))] at h2
    show tRet _ { nx := fun _ H' => Q .non H', rt := Q } [some (vS nm), some (.ref fo), some (vB (pcD k x y)), some (vN mo), some (vN ti), some (.int 9), some (.ref l), some (.ref pl), some (vN (((pcs k x y).map (·.2)).take qs.length).flatten.length), u, v] H'
    refine go_mk (ea_cons (ev_var rfl) (ea_cons (ev_var rfl) (ea_starL (ev_var rfl) (sq_of h1)))) (ea_cons (ev_var rfl) (ea_cons (ev_var rfl) ea_nil)) rfl fun H4 xx dx e4 hx hdx hn => ?_
    refine ⟨xx, dx, nm, mo, ti, k, x, y, ps, rfl, rfl, upd_same, ?_, hB, hk, fun H5 e5 hm => ⟨rfl, q xx H5 ((e3.trans e4).trans (mk_ex hx hdx e5)) hm⟩⟩
    have st : ExT a H' (upd (upd H4 dx (.own xx)) xx (.ins a.cSparse dx [])) := ExT.of fun p o hp => by
      have hp4 := e4 p o hp
      rw [upd_ne (fun z => by rw [z, hx] at hp4; cases hp4), upd_ne (fun z => by rw [z, hdx] at hp4; cases hp4)]
      exact hp4
    exact h2.mono (a := a) st
end
end Tl
end

section
set_option autoImplicit false
set_option linter.all false
set_option maxRecDepth 100000
set_option maxHeartbeats 4000000
/-! Plain mathematics: what a reader meets. -/
namespace Tl
open Tar (By)
/-- what is left of the data: the whole member and more, or a part of it with the header -/
def Rest (R : By) (m : Mem) (full : Bool) : Prop := if full = true then ∃ t2, R = mB m ++ t2 else ∃ r, R = (mB m).take r ∧ 512 ≤ r ∧ r < (mB m).length
section
variable {R : By} {m : Mem} {full : Bool}
theorem hdB_length (h : m.Ok) : (hdB m).length = 512 := (hdOk h).len
theorem Rest.len (h : Rest R m full) : 512 ≤ R.length ∨ (mB m).length ≤ R.length := by
  unfold Rest at h
  split at h
  · obtain ⟨t2, rfl⟩ := h
    right
    rw [List.length_append]
    omega
  · obtain ⟨r, rfl, h1, h2⟩ := h
    left
    rw [List.length_take]
    omega
theorem Rest.ge (h : Rest R m full) (ho : m.Ok) : 512 ≤ R.length := by
  have h1 := mB_length ho
  have := h.len
  omega
theorem Rest.lt (h : Rest R m full) : decide (R.length < (mB m).length) = !full := by
  unfold Rest at h
  split at h
  · rename_i e
    obtain ⟨t2, rfl⟩ := h
    rw [e, decide_eq_false (by rw [List.length_append]; omega)]
    rfl
  · rename_i e
    obtain ⟨r, rfl, h1, h2⟩ := h
    rw [Bool.not_eq_true] at e
    rw [e, decide_eq_true (by rw [List.length_take]; omega)]
    rfl
theorem Rest.hd (h : Rest R m full) (ho : m.Ok) : R.take 512 = hdB m := by
  unfold Rest at h
  have e : ∀ t : By, (hdB m ++ t).take 512 = hdB m := fun t => by rw [← hdB_length ho, List.take_left]
  split at h
  · obtain ⟨t2, rfl⟩ := h
    unfold mB
    rw [List.append_assoc]
    exact e _
  · obtain ⟨r, rfl, h1, h2⟩ := h
    rw [List.take_take, Nat.min_eq_left h1]
    exact e _
theorem mB_drop (ho : m.Ok) : (mB m).drop 512 = pad (stB m) := by
  unfold mB
  rw [← hdB_length ho, List.drop_left]
theorem Rest.map {nm : List Nat} {mo ti k : Nat} {x y : UInt8} (h : Rest R (.spa nm mo ti k x y) full) (ho : (Mem.spa nm mo ti k x y).Ok) (hl : 1024 ≤ R.length) : (R.drop 512).take 512 = mapB k := by
  have hm := mapB_length ho.2
  have e : ∀ t : By, (pad (stB (.spa nm mo ti k x y)) ++ t).take 512 = mapB k := fun t => by
    unfold pad
    show ((mapB k ++ pcD k x y ++ Tar.zs _) ++ t).take 512 = _
    rw [List.append_assoc, List.append_assoc, ← hm, List.take_left]
  unfold Rest at h
  split at h
  · obtain ⟨t2, rfl⟩ := h
    have : (mB (.spa nm mo ti k x y) ++ t2).drop 512 = pad (stB (.spa nm mo ti k x y)) ++ t2 := by
      rw [List.drop_append_of_le_length (by rw [mB_length ho]; omega), mB_drop ho]
    rw [this]
    exact e t2
  · obtain ⟨r, rfl, h1, h2⟩ := h
    rw [List.length_take] at hl
    rw [List.drop_take, mB_drop ho, List.take_take, Nat.min_eq_left (by omega)]
    have := e []
    rwa [List.append_nil] at this
theorem Rest.full' {t2 : By} (h : Rest R m true) : ∃ t2, R = mB m ++ t2 := by
  unfold Rest at h
  rwa [if_pos rfl] at h
theorem Rest.drop (h : Rest R m true) (ho : m.Ok) : ∃ t3, R.drop 512 = stB m ++ (Tar.zs ((512 - (stB m).length % 512) % 512) ++ t3) := by
  obtain ⟨t2, rfl⟩ := Rest.full' (t2 := []) h
  refine ⟨t2, ?_⟩
  rw [List.drop_append_of_le_length (by rw [mB_length ho]; omega), mB_drop ho]
  unfold pad
  rw [List.append_assoc]
theorem Rest.data (h : Rest R m true) (ho : m.Ok) : (R.drop 512).take (stB m).length = stB m := by
  obtain ⟨t3, e⟩ := h.drop ho
  rw [e, List.take_left]
theorem Rest.zeros (h : Rest R m true) (ho : m.Ok) : (R.drop (512 + (stB m).length)).take ((512 - (stB m).length % 512) % 512) = Tar.zs ((512 - (stB m).length % 512) % 512) := by
  obtain ⟨t3, e⟩ := h.drop ho
  rw [← List.drop_drop, e, List.drop_left]
  exact List.take_left' (Tar.zs_length _)
theorem Rest.pcs {nm : List Nat} {mo ti k : Nat} {x y : UInt8} (h : Rest R (.spa nm mo ti k x y) true) (ho : (Mem.spa nm mo ti k x y).Ok) : (R.drop 1024).take ((stB (.spa nm mo ti k x y)).length - 512) = pcD k x y := by
  obtain ⟨t3, e⟩ := h.drop ho
  have hm := mapB_length ho.2
  have e2 : (R.drop 512).drop 512 = pcD k x y ++ (Tar.zs ((512 - (stB (.spa nm mo ti k x y)).length % 512) % 512) ++ t3) := by
    rw [e]
    show (mapB k ++ pcD k x y ++ _).drop 512 = _
    rw [List.append_assoc, ← hm, List.drop_left, hm]
  have e3 : (stB (.spa nm mo ti k x y)).length - 512 = (pcD k x y).length := by
    show (mapB k ++ pcD k x y).length - 512 = _
    rw [List.length_append, hm]
    omega
  rw [show 1024 = 512 + 512 from rfl, ← List.drop_drop, e2, e3, List.take_left]
end
end Tl
end

section
set_option Elab.async false
set_option linter.all false
set_option maxRecDepth 100000
set_option maxHeartbeats 4000000
/-! Reading: at_header. -/
namespace Tl
open PySem PySem.Spec PyProof.Rows L2 Evl
open Tar (By)
open C8 (Cal Met Mak pe_c pe_mk pe_mt pe_mt0 pe_gc fnScope_by)
section
variable {P : Program} {w : World} {K : PySem.W.Frag} {mg : Str → Option Value} {base : Heap} {a : Ad}
abbrev nm_at_header : List Str := ["data", "start", "at", "long", "block", "numbers", "kind", "name", "mode", "time", "begin", "size", "end", "found", "target", "member"]
theorem sc_at_header : FnScope nm_at_header ["data", "start", "at", "long"] (defScope s_at_header) := fnScope_by (by decide +kernel)
theorem q_par3 {D : Ends} {tz : TS} {σ : L2.St} {H : Hp} {ta : TA} {i j l : Nat} {u v w : V} (h : EvA ta σ H [u, v, w]) (k : ∀ H1, Ex H H1 → tz D (((σ.set i (some u)).set j (some v)).set l (some w)) H1) : tSeq (tPar3 i j l ta) tz D σ H := h H (Ex.refl H) _ fun H1 e => ⟨u, v, w, rfl, k H1 e⟩
abbrev tlAH (K : PySem.W.Frag) (a : Ad) : TS :=
  tSeq (tIfS (tTest (tOp (rI0 fun i j => V.bl (decide (i < j))) (tCB (rLen K) (tCons (tVar 0) tNil)) (tVar 12))) (tRet (tCall (spP 1 rTorn) [] C8.E0 (tCons (tVar 1) tNil))) tNext)
    (tSeq (tIfS (tTest (tOp rNe (tSl rSlB (tVar 0) (tPart (tOp (rI0 fun i j => V.int (i + j)) (tVar 10) (tVar 11))) (tPart (tVar 12)))
        (tCB (fun xs H Q => ∃ n : Nat, xs = [V.int n] ∧ n ≤ 100000 ∧ Q (V.byt (Array.replicate n 0)) H) (tCons (tOp (rI0 fun i j => V.int (i - j)) (tOp (rI0 fun i j => V.int (i - j)) (tVar 12) (tVar 10)) (tVar 11)) tNil)))) (fun _ _ _ => False) tNext)
      (tSeq (tAsg (tDGet2 (tVar 3) (tC (V.str "K")) (tCall (spV 1 rTg) [] C8.E0 (tCons (tVar 4) tNil))) (gName 14))
        (tSeq (tMatch (tVar 6)
            (tCase "0" (tAsg (tMakeI a.cFile 2 (spFile a) (tCons (tVar 7) (tCons (tSl rSlB (tVar 0) (tPart (tVar 10)) (tPart (tOp (rI0 fun i j => V.int (i + j)) (tVar 10) (tVar 11)))) tNil)) (tCons (tVar 8) (tCons (tVar 9) tNil))) (gName 15))
              (tCase "S" (tAsg (tCallI 2 (spSp a) (tCons (tVar 7) (tCons (tVar 13) (tCons (tSl rSlB (tVar 0) (tPart (tOp (rI0 fun i j => V.int (i + j)) (tVar 10) (tC (V.int 512)))) (tPart (tOp (rI0 fun i j => V.int (i + j)) (tVar 10) (tVar 11)))) tNil))) (tCons (tVar 8) (tCons (tVar 9) tNil))) (gName 15))
                (tCase "5" (tAsg (tMakeI a.cDir 2 (spDirectory a) (tCons (tVar 7) tNil) (tCons (tVar 8) (tCons (tVar 9) tNil))) (gName 15))
                  (tCase "2" (tAsg (tMakeI a.cSym 2 (spSymlink a) (tCons (tVar 7) (tCons (tVar 14) tNil)) (tCons (tVar 8) (tCons (tVar 9) tNil))) (gName 15))
                    fun _ => tAsg (tMakeI a.cLink 2 (spLink a) (tCons (tVar 7) (tCons (tVar 14) tNil)) (tCons (tVar 8) (tCons (tVar 9) tNil))) (gName 15))))))
          (tRet (tTup (tCons (tVar 15) (tCons (tVar 12) (tCons (tC V.non) tNil))))))))
def Fd (m : Mem) (full : Bool) (vf : V) (H : Hp) : Prop := match m with
  | .spa _ _ _ k _ _ => full = true → ∃ f l qs, vf = .ref f ∧ H f = some (.tup [.int 9, .ref l]) ∧ H l = some (.lst qs) ∧ Paired (SpAt H) qs (spnI k)
  | _ => True
abbrev rSpn (a : Ad) : List V → Hp → (V → Hp → Prop) → Prop := fun vs _ Pz => ∃ (k : Nat) (n : Nat), vs = [vB (mapB k), vN n] ∧ k ≤ 2 ∧ (n = if k = 0 then 0 else k + 1) ∧ ∀ f l qs H', H' f = some (.tup [.int 9, .ref l]) → H' l = some (.lst qs) → Paired (SpAt H') qs (spnI k) → Pz (.ref f) H'
/-- what stands at a header -/
def AHres (a : Ad) (m : Mem) (full : Bool) (e : Nat) (v : V) (H : Hp) : Prop := if full = true then ∃ t p, v = .ref t ∧ H t = some (.tup [.ref p, vN e, .non]) ∧ MemAt a H p m else NoM v H
def rAH (a : Ad) : List V → Hp → (V → Hp → Prop) → Prop := fun vs H Pz => ∃ (d : By) (st at' : Nat) (ld : V) (m : Mem) (full : Bool), vs = [vB d, vN st, vN at', ld] ∧ LongE H ld ∧ d.length ≤ 20000 ∧ at' ≤ d.length ∧ m.Ok ∧
  Rest (d.drop at') m full ∧ ∀ v H', AHres a m full (at' + (mB m).length) v H' → Pz v H'
theorem ok_at_header (T : Txt K mg a) (M : Mcl K a) (F : DB K mg "at_header" s_at_header ["data", "start", "at", "long"]) (c_numbers_of : Cal P w K mg base 3 "numbers_of" (spP 1 rNums) []) (c_kind_of : Cal P w K mg base 2 "kind_of" (spV 1 rKd) []) (c_name_of : Cal P w K mg base 2 "name_of" (spV 1 rNm) [])
    (c_target_of : Cal P w K mg base 2 "target_of" (spV 1 rTg) []) (c_torn : Cal P w K mg base 1 "torn" (spP 1 rTorn) []) (c_spans_of : Cal P w K mg base 3 "spans_of" (spP 2 (rSpn a)) []) (c_sparse : CalI P w K mg base 6 "sparse" kwM (spSp a))
    (c_File : MakI P w K mg base 4 "File" a.cFile kwM (spFile a)) (c_Directory : MakI P w K mg base 4 "Directory" a.cDir kwM (spDirectory a)) (c_Symlink : MakI P w K mg base 4 "Symlink" a.cSym kwM (spSymlink a)) (c_Link : MakI P w K mg base 4 "Link" a.cLink kwM (spLink a)) :
    Cal P w K mg base 7 "at_header" (spP 4 (rAH a)) [] := by
  refine cal_of F sc_at_header (fun _ _ _ _ h => h.1) fun f cdv A outer s H vs Q E hr h => ⟨_, (pss_cons (ps_set (i := 4) sc_at_header.nd rfl (Or.inl rfl) (pe_slice sl_byt (pv 0) (po_some (pv 2)) (po_some (pe_op op_add (pv 2) (pe_gc rfl T.g_BLOCK)))))
    (pss_cons (ps_par (i := 5) (j := 6) (by rfl) sc_at_header.nd rfl rfl (by decide) rfl rfl (pa_cons (C8.pe_c c_numbers_of hr (by decide) rfl (pa_cons (pv 4) pa_nil)) (pa_cons (C8.pe_c c_kind_of hr (by decide) rfl (pa_cons (pv 4) pa_nil)) pa_nil)) (by rfl))
    (pss_cons (ps_par3 (i := 7) (j := 8) (l := 9) (by rfl) sc_at_header.nd rfl rfl rfl (by decide) (by decide) (by decide) rfl rfl rfl (pa_cons (pe_dget2 (hu_of hr) (pv 3) pe_str (C8.pe_c c_name_of hr (by decide) rfl (pa_cons (pv 4) pa_nil)) ⟨rfl, rfl, rfl, rfl⟩) (pa_cons (pe_dget (hu_of hr) (pv 5) pe_str (fun _ _ => rfl)) (pa_cons (pe_dget (hu_of hr) (pv 5) pe_str (fun _ _ => rfl)) pa_nil))) (by rfl))
    (pss_cons (ps_par (i := 10) (j := 11) (by rfl) sc_at_header.nd rfl rfl (by decide) rfl rfl (pa_cons (pe_op op_add (pv 2) (pe_gc rfl T.g_BLOCK)) (pa_cons (pe_dget (hu_of hr) (pv 5) pe_str (fun _ _ => rfl)) pa_nil)) (by rfl))
    (pss_cons (ps_set (i := 12) sc_at_header.nd rfl (Or.inl rfl) (pe_op op_add (pv 10) (pe_op op_mulW (pe_op op_fdiv (pe_op op_sub (pe_op op_add (pv 11) (pe_gc rfl T.g_BLOCK)) pe_int) (pe_gc rfl T.g_BLOCK)) (pe_gc rfl T.g_BLOCK))))
    (pss_cons (ps_set (i := 13) sc_at_header.nd rfl (Or.inl rfl) pe_non)
    (pss_cons (ps_if (PW.pt (pw_and (pt_cmpR op_eq (pv 6) pe_str (nomark _)) (pw_and1 (pt_cmpR op_ge (pe_callB call_len (by rfl) T.b_len PySem.boot_len (pa_cons (pv 0) pa_nil)) (pe_op op_add (pv 10) (pe_gc rfl T.g_BLOCK)) (nomark _))))) (pss_cons (ps_set (i := 13) sc_at_header.nd rfl (Or.inl rfl) (C8.pe_c c_spans_of hr (by decide) rfl (pa_cons (pe_slice sl_byt (pv 0) (po_some (pv 10)) (po_some (pe_op op_add (pv 10) (pe_gc rfl T.g_BLOCK)))) (pa_cons (pe_op op_sub (pv 11) (pe_gc rfl T.g_BLOCK)) pa_nil))))
    (pss_one (ps_if (pt_cmpR op_isN (pv 13) pe_non (nomark _)) (pss_one ps_neverR) pss_nil))) pss_nil)
    (pss_cons (ps_if (pt_cmpR op_lt (pe_callB call_len (by rfl) T.b_len PySem.boot_len (pa_cons (pv 0) pa_nil)) (pv 12) (nomark _)) (pss_one (ps_ret (C8.pe_c c_torn hr (by decide) rfl (pa_cons (pv 1) pa_nil)))) pss_nil)
    (pss_cons (ps_if (pt_cmpR op_ne (pe_slice sl_byt (pv 0) (po_some (pe_op op_add (pv 10) (pv 11))) (po_some (pv 12))) (pe_callTy call_bytesN (by rfl) T.b_bytes (by decide +kernel) (pa_cons (pe_op op_sub (pe_op op_sub (pv 12) (pv 10)) (pv 11)) pa_nil)) (nomark _)) (pss_one ps_neverR) pss_nil)
    (pss_cons (ps_set (i := 14) sc_at_header.nd rfl (Or.inl rfl) (pe_dget2 (hu_of hr) (pv 3) pe_str (C8.pe_c c_target_of hr (by decide) rfl (pa_cons (pv 4) pa_nil)) ⟨rfl, rfl, rfl, rfl⟩))
    (pss_cons (ps_match (pv 6) (pm_val (pss_one (ps_set (i := 15) sc_at_header.nd rfl (Or.inl rfl) (pe_mki c_File hr (by decide) rfl (pa_cons (pv 7) (pa_cons (pe_slice sl_byt (pv 0) (po_some (pv 10)) (po_some (pe_op op_add (pv 10) (pv 11)))) pa_nil)) (pk_cons (pv 8) (pk_cons (pv 9) pk_nil)))))
    (pm_val (pss_one (ps_set (i := 15) sc_at_header.nd rfl (Or.inl rfl) (pe_ci c_sparse hr (by decide) rfl (pa_cons (pv 7) (pa_cons (pv 13) (pa_cons (pe_slice sl_byt (pv 0) (po_some (pe_op op_add (pv 10) (pe_gc rfl T.g_BLOCK))) (po_some (pe_op op_add (pv 10) (pv 11)))) pa_nil))) (pk_cons (pv 8) (pk_cons (pv 9) pk_nil)))))
    (pm_val (pss_one (ps_set (i := 15) sc_at_header.nd rfl (Or.inl rfl) (pe_mki c_Directory hr (by decide) rfl (pa_cons (pv 7) pa_nil) (pk_cons (pv 8) (pk_cons (pv 9) pk_nil)))))
    (pm_val (pss_one (ps_set (i := 15) sc_at_header.nd rfl (Or.inl rfl) (pe_mki c_Symlink hr (by decide) rfl (pa_cons (pv 7) (pa_cons (pv 14) pa_nil)) (pk_cons (pv 8) (pk_cons (pv 9) pk_nil)))))
    (pm_any (pss_one (ps_set (i := 15) sc_at_header.nd rfl (Or.inl rfl) (pe_mki c_Link hr (by decide) rfl (pa_cons (pv 7) (pa_cons (pv 14) pa_nil)) (pk_cons (pv 8) (pk_cons (pv 9) pk_nil)))))))))))
    (pss_one (ps_ret (pe_tup (pa_cons (pv 15) (pa_cons (pv 12) (pa_cons pe_non pa_nil))))))))))))))))), ?_⟩
  obtain ⟨_, _, ⟨d, st, at', ld, m, full, rfl, ⟨lp, rfl, hld⟩, hd, hat, ho, hfull, hP⟩, q⟩ := h
  have hh := hdOk ho
  have hge := hfull.ge ho
  have hRl : (d.drop at').length = d.length - at' := List.length_drop ..
  have hmB := mB_length ho
  have hsl := stB_len ho
  have hb := ho.base
  have sl : ∀ {σ : L2.St} {H : Hp} {tl th : TO} (i j : Nat), σ[0]? = some (some (vB d)) → EvO tl σ H (some ((at' + i : Nat) : Int)) → EvO th σ H (some ((at' + j : Nat) : Int)) → i ≤ j → at' + i ≤ d.length → Ev (tSl rSlB (tVar 0) tl th) σ H (vB (((d.drop at').drop i).take (j - i))) := fun i j hs h1 h2 hij hi => by
    have e := ev_slB (l := d) (ev_var hs) h1 h2 hi (by omega) (by omega)
    rw [List.drop_drop]
    rwa [show at' + j - (at' + i) = j - i by omega] at e
  have ii : ∀ {σ : L2.St} {H : Hp} {te : TE} {i : Int} (j : Nat), Ev te σ H (.int i) → i = (j : Int) → EvO (tPart te) σ H (some (j : Int)) := fun j h e => eo_some (ev_is h (by rw [e]))
  refine q_asg (v := vB (hdB m)) ?_ fun H1 e1 => ?_
  · have e := sl (σ := L2.start nm_at_header [vB d, vN st, vN at', V.ref lp]) (H := H) 0 512 rfl (eo_some (ev_var (i := 2) rfl)) (ii (i := (at' : Int) + 512) (at' + 512) (ev_I (g := fun i j => i + j) (ev_var (i := 2) rfl) ev_c) (by omega)) (by decide) (by omega)
    rw [List.drop_zero, show 512 - 0 = 512 from rfl, hfull.hd ho] at e
    exact e
  have hb1 : HdB [vB (hdB m)] (kc m) m.nm m.mo (stB m).length m.ti (tgOf m) := ⟨rfl, hh⟩
  refine q_par (Pa := fun v H' => ∃ p, v = .ref p ∧ H' p = some (.dK (numKs m.mo (stB m).length m.ti))) (ep_call (ea_p (ea_cons (ev_var rfl) ea_nil)) fun vs H2 e2 p => ⟨by rw [p]; rfl, kc m, m.nm, m.mo, (stB m).length, m.ti, tgOf m, by rw [p]; exact hb1, fun p H' h1 h2 => ⟨p, rfl, h2⟩⟩) (fun x H2 e2 px => ev_p (ev_callV (z := vS [kc m]) (ea_cons (ev_var rfl) ea_nil) rfl fun _ _ => ⟨_, _, _, _, _, _, hb1, rfl⟩)) fun xv yv H2 H3 e2 e3 px py => ?_
  obtain ⟨np, rfl, hnp⟩ := px
  subst py
  have hnp3 := e3 _ _ hnp
  have dg : ∀ {σ : L2.St} {H : Hp} {f : Str} {v : V}, Ex H3 H → σ[5]? = some (some (.ref np)) → valV (numKs m.mo (stB m).length m.ti) (.inr f : Key) = some v → Ev (tDGet (tVar 5) (tC (.str f))) σ H v := fun e hs hv => ev_dget (k0 := .inr _) (ev_var hs) ev_c (e _ _ hnp3) hv
  have lg : ∀ {σ : L2.St} {H : Hp} {f : Str} {te : TE} {v : V}, Ex H3 H → σ[3]? = some (some (.ref lp)) → Ev te σ H v → Ev (tDGet2 (tVar 3) (tC (.str f)) te) σ H v := fun {σ H f te v} e hs hv H4 e4 Q q => by
    have hl4 := e4 _ _ (e _ _ (((e1.trans e2).trans e3) _ _ hld))
    exact ⟨_, hs, lp, rfl, .inl ⟨[], .inl hl4⟩, hv H4 e4 _ fun H5 e5 => ⟨none, DGet.k (k := .inr f) (e5 _ _ hl4), q H5 e5⟩⟩
  refine q_par3 (ea_cons (lg (Ex.refl _) rfl (ev_callV (z := vS m.nm) (ea_cons (ev_var rfl) ea_nil) rfl fun _ _ => ⟨_, _, _, _, _, _, hb1, rfl⟩)) (ea_cons (dg (f := "mode") (Ex.refl _) rfl (v := vN m.mo) rfl) (ea_cons (dg (f := "time") (Ex.refl _) rfl (v := vN m.ti) rfl) ea_nil))) fun H4 e4 => ?_
  have mk : ∀ {σ : L2.St} {H5 : Hp} {C : Addr} {sp : SpI} {t tk : TA} {vs zs : List V} {n : Nat}, EvA t σ H5 vs → EvA tk σ H5 zs → zs.length = n → (∀ xx dx (H6 : Hp) (Q6 : VK), H6 xx = some (.ins C dx []) → (∀ H', ExB xx H6 H' → MemAt a H' xx m → Q6 .non H') → sp (.ref xx :: vs) zs H6 Q6) → EvP (tMakeI C n sp t tk) σ H5 (fun v H' => ∃ p, v = .ref p ∧ MemAt a H' p m) := fun h1 h2 hl h3 H6 e6 Q6 q6 =>
    h1 H6 e6 _ fun H7 e7 => h2 H7 (e6.trans e7) _ fun H8 e8 => ⟨hl, fun xx dx hx hdx hn => h3 xx dx _ _ upd_same fun H9 e9 hm => ⟨rfl, q6 _ H9 ((e7.trans e8).trans (mk_ex hx hdx e9)) ⟨xx, rfl, hm⟩⟩⟩
  have mkC : ∀ {σ : L2.St} {H5 : Hp} {sp : SpI} {t tk : TA} {vs zs : List V} {n : Nat}, EvA t σ H5 vs → EvA tk σ H5 zs → zs.length = n → (∀ (H6 : Hp) (Q6 : VK), Ex H5 H6 → (∀ p H', Ex H6 H' → MemAt a H' p m → Q6 (.ref p) H') → sp vs zs H6 Q6) → EvP (tCallI n sp t tk) σ H5 (fun v H' => ∃ p, v = .ref p ∧ MemAt a H' p m) := fun h1 h2 hl h3 H6 e6 Q6 q6 =>
    h1 H6 e6 _ fun H7 e7 => h2 H7 (e6.trans e7) _ fun H8 e8 => ⟨hl, h3 H8 Q6 ((e6.trans e7).trans e8) fun p H' e hm => q6 _ H' ((e7.trans e8).trans e) ⟨p, rfl, hm⟩⟩
  have tail : ∀ (vf : V) (H5 : Hp), Ex H3 H5 → Fd m full vf H5 → tlAH K a { nx := fun _ H' => Q .non H', rt := Q } [some (vB d), some (vN st), some (vN at'), some (.ref lp), some (vB (hdB m)), some (.ref np), some (vS [kc m]), some (vS m.nm), some (vN m.mo), some (vN m.ti), some (vN (at' + 512)), some (vN (stB m).length), some (vN (at' + (mB m).length)), some vf, none, none] H5 := fun vf H5 e5 hfd => by
    have e05 := ((e1.trans e2).trans e3).trans e5
    refine q_when (b := !full) (et_is (et_I (g := fun i j => decide (i < j)) (ev_len8 (ev_var rfl) (by omega)) (ev_var rfl)) ?_) (fun hf H6 e6 => ?_) (fun hf H6 e6 => ?_)
    · rw [← hfull.lt, hRl]
      exact decide_eq_decide.mpr (by omega)
    · have hf' : full = false := by simpa using hf
      exact s_retP (ep_call (P := NoM) (ea_p (ea_cons (ev_var rfl) ea_nil)) fun vs H7 e7 p => ⟨by rw [p]; rfl, _, p, fun v H' h => h⟩) fun v H7 e7 h => q v H7 ((e05.trans e6).trans e7) (hP v H7 (by unfold AHres; rw [hf', if_neg Bool.false_ne_true]; exact h))
    have hf' : full = true := by simpa using hf
    subst hf'
    have hzl : ((512 - (stB m).length % 512) % 512) = (mB m).length - 512 - (stB m).length := by rw [hmB]; omega
    have hRge : (mB m).length ≤ d.length - at' := by
      obtain ⟨t2, ht⟩ := Rest.full' (t2 := []) hfull
      rw [← hRl, ht, List.length_append]
      omega
    refine q_when (b := false) (et_is (et_ne (x := vB (Tar.zs ((512 - (stB m).length % 512) % 512))) (y := vB (Tar.zs ((512 - (stB m).length % 512) % 512))) (ev_is (sl (512 + (stB m).length) (mB m).length rfl (ii (i := ((at' + 512 : Nat) : Int) + ((stB m).length : Int)) (at' + (512 + (stB m).length)) (ev_I (g := fun i j => i + j) (ev_var rfl) (ev_var rfl)) (by omega)) (eo_some (ev_var rfl)) (by omega) (by omega)) ?_) (ev_zeros (n := (512 - (stB m).length % 512) % 512) (ev_I (g := fun i j => i - j) (ev_I (g := fun i j => i - j) (ev_var rfl) (ev_var rfl)) (ev_var rfl)) ?_ (by omega)) rfl) (by simp)) (fun h => nomatch h) fun _ H7 e7 => ?_
    · rw [show (mB m).length - (512 + (stB m).length) = (512 - (stB m).length % 512) % 512 by omega, hfull.zeros ho]
    · omega
    refine q_asg (lg ((e5.trans e6).trans e7) rfl (ev_callV (z := vS (tgOf m)) (ea_cons (ev_var rfl) ea_nil) rfl fun _ _ => ⟨_, _, _, _, _, _, hb1, rfl⟩)) fun H8 e8 => ?_
    have e58 := (e6.trans e7).trans e8
    refine q_match (ev_var rfl) fun H9 e9 => ?_
    have e59 := e58.trans e9
    have fin : ∀ (v : V) (H10 : Hp), Ex H9 H10 → (∃ p, v = .ref p ∧ MemAt a H10 p m) → tRet (tTup (tCons (tVar 15) (tCons (tVar 12) (tCons (tC V.non) tNil)))) { nx := fun _ H' => Q .non H', rt := Q } [some (vB d), some (vN st), some (vN at'), some (.ref lp), some (vB (hdB m)), some (.ref np), some (vS [kc m]), some (vS m.nm), some (vN m.mo), some (vN m.ti), some (vN (at' + 512)), some (vN (stB m).length), some (vN (at' + (mB m).length)), some vf, some (vS (tgOf m)), some v] H10 := fun v H10 e10 ⟨p, hv, hm⟩ => by
      subst hv
      refine s_retP (EvU.p (eu_tup (ea_cons (ev_var rfl) (ea_cons (ev_var rfl) (ea_cons ev_c ea_nil))) (by show 3 ≤ 100000; decide))) fun v H11 e11 ⟨t, hv, ht⟩ => ?_
      subst hv
      refine q _ H11 ((e05.trans e59).trans (e10.trans e11)) (hP _ H11 ?_)
      unfold AHres
      rw [if_pos rfl]
      exact ⟨t, p, rfl, ht, hm.mono M.ap (ExT.of e11)⟩
    have e39 := e5.trans e59
    cases m with
    | fil nm mo ti db =>
      refine case_hit (show sS [48] = ("0" : Str) by decide +kernel) (s_asgP (mk (ea_cons (ev_var rfl) (ea_cons (ev_is (sl 512 (512 + db.length) rfl (eo_some (ev_var rfl)) (ii (i := ((at' + 512 : Nat) : Int) + (db.length : Int)) (at' + (512 + db.length)) (ev_I (g := fun i j => i + j) (ev_var rfl) (ev_var rfl)) (by omega)) (by omega) (by omega)) ?_) ea_nil)) (ea_cons (ev_var rfl) (ea_cons (ev_var rfl) ea_nil)) rfl fun xx dx H6 Q6 hx kq => ⟨xx, dx, nm, mo, ti, db, rfl, rfl, hx, hb, ho.2, kq⟩) fun v H10 e10 h => fin v H10 e10 h)
      rw [show 512 + db.length - 512 = (stB (.fil nm mo ti db)).length from Nat.add_sub_cancel_left .., hfull.data ho]
      rfl
    | spa nm mo ti k x y =>
      obtain ⟨f, l, qs, rfl, hf1, hf2, hf3⟩ := hfd rfl
      have hsg : 512 ≤ (stB (.spa nm mo ti k x y)).length := by
        show 512 ≤ (mapB k ++ pcD k x y).length
        rw [List.length_append, mapB_length ho.2]
        omega
      have hsl2 := sl (σ := [some (vB d), some (vN st), some (vN at'), some (.ref lp), some (vB (hdB (.spa nm mo ti k x y))), some (.ref np), some (vS [kc (.spa nm mo ti k x y)]), some (vS nm), some (vN mo), some (vN ti), some (vN (at' + 512)), some (vN (stB (.spa nm mo ti k x y)).length), some (vN (at' + (mB (.spa nm mo ti k x y)).length)), some (.ref f), some (vS [])])
        (H := H9) 1024 (512 + (stB (.spa nm mo ti k x y)).length) rfl (ii (i := ((at' + 512 : Nat) : Int) + 512) (at' + 1024) (ev_I (g := fun i j => i + j) (ev_var (i := 10) rfl) ev_c) (by omega)) (ii (i := ((at' + 512 : Nat) : Int) + ((stB (.spa nm mo ti k x y)).length : Int)) (at' + (512 + (stB (.spa nm mo ti k x y)).length)) (ev_I (g := fun i j => i + j) (ev_var (i := 10) rfl) (ev_var (i := 11) rfl)) (by omega)) (by omega) (by omega)
      rw [show 512 + (stB (.spa nm mo ti k x y)).length - 1024 = (stB (.spa nm mo ti k x y)).length - 512 by omega, hfull.pcs ho] at hsl2
      refine case_miss (show ¬ sS [83] = ("0" : Str) by decide +kernel) (case_hit (show sS [83] = ("S" : Str) by decide +kernel) (s_asgP (mkC (ea_cons (ev_var rfl) (ea_cons (ev_var rfl) (ea_cons hsl2 ea_nil))) (ea_cons (ev_var rfl) (ea_cons (ev_var rfl) ea_nil)) rfl fun H10 Q6 e10 q6 => ⟨nm, f, l, qs, k, x, y, mo, ti, rfl, rfl, e10 _ _ (e59 _ _ hf1), e10 _ _ (e59 _ _ hf2), L2.Paired.mapP hf3 fun _ _ z => (let ⟨b, z1, z2⟩ := z; ⟨b, z1, e10 _ _ (e59 _ _ z2)⟩), ho.2, hb, q6⟩) fun v H10 e10 h => fin v H10 e10 h))
    | dir nm mo ti =>
      exact case_miss (show ¬ sS [53] = ("0" : Str) by decide +kernel) (case_miss (show ¬ sS [53] = ("S" : Str) by decide +kernel) (case_hit (show sS [53] = ("5" : Str) by decide +kernel) (s_asgP (mk (ea_cons (ev_var rfl) ea_nil) (ea_cons (ev_var rfl) (ea_cons (ev_var rfl) ea_nil)) rfl fun xx dx H6 Q6 hx kq => ⟨xx, dx, nm, mo, ti, rfl, rfl, hx, hb, kq⟩) fun v H10 e10 h => fin v H10 e10 h)))
    | sym nm mo ti tg =>
      exact case_miss (show ¬ sS [50] = ("0" : Str) by decide +kernel) (case_miss (show ¬ sS [50] = ("S" : Str) by decide +kernel) (case_miss (show ¬ sS [50] = ("5" : Str) by decide +kernel) (case_hit (show sS [50] = ("2" : Str) by decide +kernel) (s_asgP (mk (ea_cons (ev_var rfl) (ea_cons (ev_var rfl) ea_nil)) (ea_cons (ev_var rfl) (ea_cons (ev_var rfl) ea_nil)) rfl fun xx dx H6 Q6 hx kq => ⟨xx, dx, nm, mo, ti, tg, rfl, rfl, hx, hb, ho.2, kq⟩) fun v H10 e10 h => fin v H10 e10 h))))
    | lnk nm mo ti tg =>
      exact case_miss (show ¬ sS [49] = ("0" : Str) by decide +kernel) (case_miss (show ¬ sS [49] = ("S" : Str) by decide +kernel) (case_miss (show ¬ sS [49] = ("5" : Str) by decide +kernel) (case_miss (show ¬ sS [49] = ("2" : Str) by decide +kernel) (s_asgP (mk (ea_cons (ev_var rfl) (ea_cons (ev_var rfl) ea_nil)) (ea_cons (ev_var rfl) (ea_cons (ev_var rfl) ea_nil)) rfl fun xx dx H6 Q6 hx kq => ⟨xx, dx, nm, mo, ti, tg, rfl, rfl, hx, hb, ho.2, kq⟩) fun v H10 e10 h => fin v H10 e10 h))))
  refine q_par (Pa := fun v _ => v = vN (at' + 512)) (ev_p (ev_is (ev_I (g := fun i j => i + j) (i := (at' : Int)) (j := 512) (ev_var rfl) ev_c) rfl)) (fun x H5 e5 px => ev_p (dg (f := "size") (e4.trans e5) rfl (v := vN (stB m).length) rfl)) fun xv yv H5 H6 e5 e6 px py => ?_
  subst px
  subst py
  refine q_asg (v := vN (at' + (mB m).length)) (ev_is (ev_I (g := fun i j => i + j) (ev_var rfl) (ev_IC (g := fun i j => i * j) (ev_IC (g := fun i j => i / j) (j := 512) (ev_I (g := fun i j => i - j) (ev_I (g := fun i j => i + j) (ev_var rfl) ev_c) ev_c) ev_c ?_) ev_c ?_)) ?_) fun H7 e7 => ?_
  · exact ⟨by decide, by decide⟩
  · refine wide_mul (a := 20) (b := 20) ?_ (by decide) (by decide) (by decide) (by decide)
    show ((((stB m).length : Int) + 512 - 1) / 512).natAbs < 2 ^ 20
    omega
  · show V.int (((at' + 512 : Nat) : Int) + (((stB m).length : Int) + 512 - 1) / 512 * 512) = V.int ((at' + (mB m).length : Nat) : Int)
    congr 1
    omega
  refine q_asg (v := .non) ev_c fun H8 e8 => ?_
  have e38 := (((e4.trans e5).trans e6).trans e7).trans e8
  have e08 := ((e1.trans e2).trans e3).trans e38
  by_cases hsp : kc m = 83
  · obtain ⟨nm, mo, ti, k, x, y, rfl⟩ : ∃ nm mo ti k x y, m = .spa nm mo ti k x y := by
      cases m with
      | spa nm mo ti k x y => exact ⟨_, _, _, _, _, _, rfl⟩
      | fil nm mo ti db => exact absurd (show (48 : Nat) = 83 from hsp) (by decide)
      | dir nm mo ti => exact absurd (show (53 : Nat) = 83 from hsp) (by decide)
      | sym nm mo ti tg => exact absurd (show (50 : Nat) = 83 from hsp) (by decide)
      | lnk nm mo ti tg => exact absurd (show (49 : Nat) = 83 from hsp) (by decide)
    have hpl := pcD_len (x := x) (y := y) ho.2
    have hst : (stB (.spa nm mo ti k x y)).length = 512 + (pcD k x y).length := by
      show (mapB k ++ pcD k x y).length = _
      rw [List.length_append, mapB_length ho.2]
    refine q_if (b := decide (1024 ≤ d.length - at')) (et_is (et_and (a := true) (et_is (et_eq (ev_var rfl) ev_c rfl) (show decide (vS [83] = .str "S") = true by decide +kernel)) fun _ => et_I (g := fun i j => decide (j ≤ i)) (ev_len8 (ev_var rfl) (by omega)) (ev_I (g := fun i j => i + j) (ev_var rfl) ev_c)) ?_) (fun hb9 H9 e9 => ?_) (fun hb9 H9 e9 => ?_)
    · rw [Bool.true_and]
      exact decide_eq_decide.mpr (by omega)
    · have hlen := of_decide_eq_true hb9
      have hmap := hfull.map ho (by omega)
      refine q_asgP (P := fun v H' => ∃ f l qs, v = .ref f ∧ H' f = some (.tup [.int 9, .ref l]) ∧ H' l = some (.lst qs) ∧ Paired (SpAt H') qs (spnI k)) (ep_call (ea_p (ea_cons (ev_is (sl 512 1024 rfl (eo_some (ev_var rfl)) (ii (i := ((at' + 512 : Nat) : Int) + 512) (at' + 1024) (ev_I (g := fun i j => i + j) (ev_var rfl) ev_c) (by omega)) (by decide) (by omega)) (by rw [show 1024 - 512 = 512 from rfl, hmap])) (ea_cons (ev_I (g := fun i j => i - j) (ev_var rfl) ev_c) ea_nil))) fun vs H10 e10 p => ⟨by rw [p]; rfl, k, (pcD k x y).length, ?_, ho.2, hpl, fun f l qs H' h1 h2 h3 => ⟨f, l, qs, rfl, h1, h2, h3⟩⟩) fun v H10 e10 hv => ?_
      · rw [p]
        show [vB (mapB k), V.int (((stB (.spa nm mo ti k x y)).length : Int) - 512)] = [vB (mapB k), V.int ((pcD k x y).length : Int)]
        congr 3
        omega
      · obtain ⟨f, l, qs, rfl, h1, h2, h3⟩ := hv
        refine s_when (et_is (et_isN (ev_var rfl)) (decide_eq_false fun z => nomatch z)) (fun h => nomatch h) fun _ H11 e11 => ?_
        exact tail (.ref f) H11 (e38.trans ((e9.trans e10).trans e11)) fun _ => ⟨f, l, qs, rfl, e11 _ _ h1, e11 _ _ h2, L2.Paired.mapP h3 fun _ _ z => (let ⟨b, z1, z2⟩ := z; ⟨b, z1, e11 _ _ z2⟩)⟩
    · have hlen := of_decide_eq_false hb9
      refine tail .non H9 (e38.trans e9) fun hf => ?_
      subst hf
      have := hfull.lt
      rw [hRl] at this
      have := of_decide_eq_false this
      omega
  · have hS : decide (vS [kc m] = .str "S") = false := by
      rcases hh.k5 with h | h | h | h | h <;> rw [h] <;> first | decide +kernel | exact absurd h hsp
    refine q_when (et_and (a := false) (b := false) (et_is (et_eq (ev_var rfl) ev_c rfl) hS) fun h => nomatch h) (fun h => nomatch h) fun _ H9 e9 => ?_
    refine tail .non H9 (e38.trans e9) ?_
    cases m with
    | spa nm mo ti k x y => exact absurd rfl hsp
    | fil nm mo ti db => trivial
    | dir nm mo ti => trivial
    | sym nm mo ti tg => trivial
    | lnk nm mo ti tg => trivial
end
end Tl
end

section
set_option Elab.async false
set_option linter.all false
set_option maxRecDepth 100000
set_option maxHeartbeats 4000000
/-! Reading: look_at, scan. -/
namespace Tl
open PySem PySem.Spec PyProof.Rows L2 Evl
open Tar (By)
open C8 (Cal Met Mak pe_c pe_mk pe_mt pe_mt0 pe_gc fnScope_by)
section
variable {X : Cx}
theorem pss_no {l : List Stmt} : PSs X l (fun _ _ _ => False) := ⟨fun _ _ _ _ _ _ h => h.elim⟩
theorem pe_no {e : Expr} : PE X e (fun _ _ _ => False) := ⟨fun _ _ _ _ _ _ h => h.elim⟩
def wLen (K : PySem.W.Frag) (t : TEw) : TEw := fun σ H Q => t σ H fun x σ1 H1 => ∃ n, LenV K x H1 n ∧ Q (.int (n : Nat)) σ1 H1
theorem pew_len {e : Expr} {t : TEw} {p pos : Pos} (hg : Gl X "len") (hm : X.mg "len" = none) (h : PEw X e t) (he : starEach [e] X.env = (false, eval e X.env) :: starEach [] X.env := by rfl) (hpl : (backTo pos (starEach [] X.env)).any (·.1) = false := by rfl) : PEw X (.Call (.Name "len" p) [e] [] pos) (wLen X.K t) := by
  refine ⟨fun pins s σ H Q I hq => ?_⟩
  refine wpAny_Call_Name_kw (ld_blt I hg hm PySem.boot_len ?_)
  refine PyProof.Rows.callWith_builtin1 ?_ he hpl
  rw [he]
  refine Calls.spliced_cons (thn (h.run pins s σ H _ I hq) fun u s1 ⟨x, σ1, H1, I1, r1, n, hn, q⟩ => Calls.spliced_nil ?_)
  refine thn (call_len pins s1 σ1 H1 [x] [u] (fun z H2 => z = V.int (n : Nat) ∧ H2 = H1) I1 (.cons r1 .nil) ⟨x, n, rfl, hn, rfl, rfl⟩) fun r s2 ⟨z, H2, I2, rz, ez, eH⟩ => ?_
  subst ez
  subst eH
  exact ⟨_, σ1, H2, I2, rz, q⟩
end
section
variable {P : Program} {w : World} {K : PySem.W.Frag} {mg : Str → Option Value} {base : Heap} {a : Ad}
theorem q_while1 {D : Ends} {c : TTw} {tb tz : TS} {σ σ1 : L2.St} {H : Hp} (b : Bool) (hc : ∀ H0, Ex H H0 → ∀ Qk : Bool → L2.St → Hp → Prop, (∀ H1, Ex H H1 → Qk b σ1 H1) → c σ H0 Qk)
    (h1 : b = true → ∀ H1, Ex H H1 → tb { D with nx := fun _ _ => False, ct := fun _ _ => False, bk := tz D } σ1 H1) (h2 : b = false → ∀ H1, Ex H H1 → tz D σ1 H1) : tSeq (tWhileW c tb tNext) tz D σ H := by
  refine ⟨fun _ σ' H' => σ' = σ ∧ Ex H H', ⟨0, rfl, Ex.refl _⟩, ?_⟩
  rintro m0 σ' H3 ⟨rfl, e3⟩
  refine hc H3 e3 _ fun H1 e1 => ?_
  cases b with
  | true =>
    show (if true = true then _ else _)
    rw [if_pos rfl]
    exact ⟨fun _ _ => False, fun _ _ h => h.elim, h1 rfl H1 e1⟩
  | false =>
    show (if false = true then _ else _)
    rw [if_neg Bool.false_ne_true]
    exact h2 rfl H1 e1
abbrev nm_look_at : List Str := ["data", "start", "at", "long", "field", "kind", "behind", "text", "block"]
theorem sc_look_at : FnScope nm_look_at ["data", "start"] (defScope s_look_at) := fnScope_by (by decide +kernel)
def RestS (R : By) (m : Mem) (full : Bool) : Prop := if full = true then ∃ t2, R = mB m ++ t2 else ∃ r, R = (mB m).take r ∧ r < (mB m).length
theorem RestS.rest {R : By} {m : Mem} {full : Bool} (h : RestS R m full) (hl : 512 ≤ R.length) : Rest R m full := by
  unfold RestS at h
  unfold Rest
  cases full with
  | true => exact h
  | false =>
    rw [if_neg Bool.false_ne_true] at h ⊢
    obtain ⟨r, rfl, h2⟩ := h
    rw [List.length_take] at hl
    exact ⟨r, rfl, by omega, h2⟩
theorem RestS.short {R : By} {m : Mem} {full : Bool} (h : RestS R m full) (ho : m.Ok) (hl : R.length < 512) : full = false := by
  unfold RestS at h
  cases full with
  | false => rfl
  | true =>
    rw [if_pos rfl] at h
    obtain ⟨t2, rfl⟩ := h
    rw [List.length_append, mB_length ho] at hl
    omega
theorem hd_ne {m : Mem} (ho : m.Ok) : hdB m ≠ Tar.zs 512 := fun e => by
  have hh := hdOk ho
  have h1 := Tar.f_name (kind := kc m) (mode := m.mo) (size := (stB m).length) (time := m.ti) (tg := tgOf m) (nm := m.nm) (by have := hh.nl; omega)
  have h2 : Tar.hdr (kc m) m.nm m.mo (stB m).length m.ti (tgOf m) = Tar.zs 512 := e
  rw [h2] at h1
  have hp := names_Pr (labels_names hh.hnm)
  have hn := (names_len (labels_names hh.hnm)).1
  cases hnm : m.nm with
  | nil => rw [hnm] at hn; exact absurd hn (by decide)
  | cons c r =>
    have hc := hp c (by rw [hnm]; exact .head _)
    rw [hnm] at h1
    have h3 : (Tar.sl (Tar.zs 512) 0 100)[0]? = (Tar.txt 100 (c :: r))[0]? := by rw [h1]
    have h4 : (Tar.sl (Tar.zs 512) 0 100)[0]? = some 0 := rfl
    have h5 : (Tar.txt 100 (c :: r))[0]? = some (Nat.toUInt8 c) := rfl
    rw [h4, h5] at h3
    have h6 := congrArg UInt8.toNat (Option.some.inj h3)
    rw [Tar.u8_of (by omega)] at h6
    have : (0 : UInt8).toNat = 0 := rfl
    omega
def rLA (a : Ad) : List V → Hp → (V → Hp → Prop) → Prop := fun vs _ Pz => ∃ (d : By) (at' : Nat), vs = [vB d, vN at'] ∧ d.length ≤ 20000 ∧ at' ≤ d.length ∧
  ((∃ k, k ≤ 1024 ∧ d.drop at' = Tar.zs k ∧ ∀ v H', NoM v H' → Pz v H') ∨ ∃ m full, m.Ok ∧ RestS (d.drop at') m full ∧ ∀ v H', AHres a m full (at' + (mB m).length) v H' → Pz v H')
theorem ok_look_at (T : Txt K mg a) (F : DB K mg "look_at" s_look_at ["data", "start"]) (c_torn : Cal P w K mg base 1 "torn" (spP 1 rTorn) []) (c_kind_of : Cal P w K mg base 2 "kind_of" (spV 1 rKd) [])
    (c_wrong_field : Cal P w K mg base 5 "wrong_field" (spV 2 fun vs H z => ∃ l kind nm mo si ti tg, vs = [vB (Tar.hdr kind nm mo si ti tg), l] ∧ HdOk kind nm mo si ti tg ∧ LongE H l ∧ z = .non) []) (c_at_header : Cal P w K mg base 7 "at_header" (spP 4 (rAH a)) []) :
    Cal P w K mg base 8 "look_at" (spP 2 (rLA a)) [] := by
  refine cal_of F sc_look_at (fun _ _ _ _ h => h.1) fun f cdv A outer s H vs Q E hr h => ⟨_, (pss_cons (ps_par (i := 2) (j := 3) (by rfl) sc_look_at.nd rfl rfl (by decide) rfl rfl (pa_cons (pv 1) (pa_cons pe_dnewK pa_nil)) (by rfl))
    (pss_cons (ps_whileW PassesOwn.never (ptw_cmp op_eq (pew_len (by rfl) T.b_len (pew_named (i := 8) sc_look_at.nd rfl (Or.inl rfl) (pew_of (pe_slice sl_byt (pv 0) (po_some (pv 2)) (po_some (pe_op op_add (pv 2) (pe_gc rfl T.g_BLOCK))))))) (pe_gc rfl T.g_BLOCK) (nomark _)) (pss_cons (ps_if (PW.pt (pw_and (pt_cmpR op_eq (pv 2) (pv 1) (nomark _)) (pw_and1 (pt_cmpR op_eq (pv 8) (pe_callTy call_bytesN (by rfl) T.b_bytes (by decide +kernel) (pa_cons (pe_gc rfl T.g_BLOCK) pa_nil)) (nomark _))))) (pss_cons (ps_set (i := 6) sc_look_at.nd rfl (Or.inl rfl) (pe_slice sl_byt (pv 0) (po_some (pe_op op_add (pv 2) (pe_gc rfl T.g_BLOCK))) (po_some (pe_op op_add (pv 2) (pe_op op_mulW pe_int (pe_gc rfl T.g_BLOCK))))))
    (pss_cons (ps_if (pt_cmpR op_lt (pe_callB call_len (by rfl) T.b_len PySem.boot_len (pa_cons (pv 6) pa_nil)) (pe_gc rfl T.g_BLOCK) (nomark _)) (pss_one (ps_ret (C8.pe_c c_torn hr (by decide) rfl (pa_cons (pv 1) pa_nil)))) pss_nil)
    (pss_one (ps_ret (pe_ifExp (pt_cmpR op_eq (pv 6) (pe_callTy call_bytesN (by rfl) T.b_bytes (by decide +kernel) (pa_cons (pe_gc rfl T.g_BLOCK) pa_nil)) (nomark _)) (pe_tup (pa_cons pe_non (pa_cons (pe_op op_add (pv 2) (pe_gc rfl T.g_END_SIZE)) (pa_cons pe_non pa_nil)))) pe_no))))) pss_nil)
    (pss_cons (ps_set (i := 4) sc_look_at.nd rfl (Or.inl rfl) (C8.pe_c c_wrong_field hr (by decide) rfl (pa_cons (pv 8) (pa_cons (pv 3) pa_nil))))
    (pss_cons (ps_if (pt_cmpR op_notN (pv 4) pe_non (nomark _)) (pss_one ps_neverR) pss_nil)
    (pss_cons (ps_set (i := 5) sc_look_at.nd rfl (Or.inl rfl) (C8.pe_c c_kind_of hr (by decide) rfl (pa_cons (pv 8) pa_nil)))
    (pss_cons (ps_if (pt_cmpR op_notIn_sign (pv 5) pe_str (by rfl)) (pss_one (ps_ret (C8.pe_c c_at_header hr (by decide) rfl (pa_cons (pv 0) (pa_cons (pv 1) (pa_cons (pv 2) (pa_cons (pv 3) pa_nil))))))) pss_nil) pss_no))))) pss_nil)
    (pss_one (ps_ret (C8.pe_c c_torn hr (by decide) rfl (pa_cons (pv 1) pa_nil)))))), ?_⟩
  obtain ⟨_, _, ⟨d, at', rfl, hd, hat, hcase⟩, q⟩ := h
  have hRl : (d.drop at').length = d.length - at' := List.length_drop ..
  refine q_par (Pa := fun v _ => v = vN at') (ev_p (ev_var rfl)) (fun x H1 e1 px => ep_newD) fun xv yv H1 H2 e1 e2 px py => ?_
  obtain ⟨lp, rfl, hlp0, hlp⟩ := py
  subst px
  have sl : ∀ {σ : L2.St} {H : Hp} {tl th : TO} (i j : Nat), σ[0]? = some (some (vB d)) → EvO tl σ H (some ((at' + i : Nat) : Int)) → EvO th σ H (some ((at' + j : Nat) : Int)) → i ≤ j → at' + i ≤ d.length → Ev (tSl rSlB (tVar 0) tl th) σ H (vB (((d.drop at').drop i).take (j - i))) := fun i j hs h1 h2 hij hi => by
    have e := ev_slB (l := d) (ev_var hs) h1 h2 hi (by omega) (by omega)
    rw [List.drop_drop]
    rwa [show at' + j - (at' + i) = j - i by omega] at e
  have ii : ∀ {σ : L2.St} {H : Hp} {te : TE} {i : Int} (j : Nat), Ev te σ H (.int i) → i = (j : Int) → EvO (tPart te) σ H (some (j : Int)) := fun j h e => eo_some (ev_is h (by rw [e]))
  have e02 := e1.trans e2
  have tn : ∀ {σ : L2.St} {H' : Hp} {D : Ends}, Ex H H' → σ[1]? = some (some (vN at')) → (∀ v H', Ex H H' → NoM v H' → D.rt v H') → tRet (tCall (spP 1 rTorn) [] C8.E0 (tCons (tVar 1) tNil)) D σ H' := fun e hs k =>
    s_retP (ep_call (P := NoM) (ea_p (ea_cons (ev_var hs) ea_nil)) fun vs H7 e7 p => ⟨by rw [p]; rfl, _, p, fun v H' h => h⟩) fun v H7 e7 h => k v H7 (e.trans e7) h
  refine q_while1 (σ1 := [some (vB d), some (vN at'), some (vN at'), some (.ref lp), none, none, none, none, some (vB ((d.drop at').take 512))]) (decide (512 ≤ (d.drop at').length)) (fun H3 e3 Qk qk => ?_) (fun hl H4 e4 => ?_) (fun hl H4 e4 => ?_)
  · have hblk := sl (σ := [some (vB d), some (vN at'), some (vN at'), some (.ref lp), none, none, none, none, none]) (H := H3) (tl := tPart (tVar 2)) (th := tPart (tOp (rI0 fun i j => V.int (i + j)) (tVar 2) (tC (V.int 512)))) 0 512 rfl (eo_some (ev_var (i := 2) rfl)) (ii (i := (at' : Int) + 512) (at' + 512) (ev_I (g := fun i j => i + j) (ev_var (i := 2) rfl) ev_c) (by omega)) (by decide) (by omega)
    rw [List.drop_zero, show 512 - 0 = 512 from rfl] at hblk
    refine hblk H3 (Ex.refl H3) _ fun H4 e4 => ⟨((d.drop at').take 512).length, ⟨by rw [szB, List.length_take, sizeLine_eq]; omega, by rw [szB]⟩, rfl, decide (V.int (((d.drop at').take 512).length : Nat) = .int 512), rfl, ?_⟩
    have hdec : decide (V.int (((d.drop at').take 512).length : Nat) = .int 512) = decide (512 ≤ (d.drop at').length) := by
      refine decide_eq_decide.mpr ⟨fun z => ?_, fun z => ?_⟩
      · have := V.int.inj z
        rw [List.length_take] at this
        omega
      · rw [List.length_take]
        congr 1
        omega
    rw [hdec]
    exact qk H4 (e3.trans e4)
  · have hl := of_decide_eq_true hl
    have e04 := e02.trans e4
    have hd4 := e4 _ _ hlp
    rcases hcase with ⟨k, hk, hz, hP⟩ | ⟨m, full, ho, hrs, hP⟩
    · rw [hz, Tar.zs_length] at hl
      have hlen : d.length - at' = k := by rw [← hRl, hz, Tar.zs_length]
      have htk : ∀ i j, ((d.drop at').drop i).take j = Tar.zs (min j (k - i)) := fun i j => by
        rw [hz]
        unfold Tar.zs
        rw [List.drop_replicate, List.take_replicate]
      refine q_if (b := true) (et_and (a := true) (b := true) (et_is (et_eq (x := vN at') (y := vN at') (ev_var rfl) (ev_var rfl) rfl) (decide_eq_true rfl)) fun _ => et_is (et_eq (x := vB ((d.drop at').take 512)) (y := vB (Tar.zs 512)) (ev_var rfl) (ev_zeros (n := 512) (ev_c (v := .int 512)) rfl (by decide)) rfl) ?_) (fun _ H5 e5 => ?_) (fun h => nomatch h)
      · have := htk 0 512
        rw [List.drop_zero, Nat.sub_zero, Nat.min_eq_left hl] at this
        rw [this]
        exact decide_eq_true rfl
      refine q_asg (v := vB (Tar.zs (min 512 (k - 512)))) (ev_is (sl 512 1024 rfl (ii (i := (at' : Int) + 512) (at' + 512) (ev_I (g := fun i j => i + j) (ev_var rfl) ev_c) (by omega)) (ii (i := (at' : Int) + 2 * 512) (at' + 1024) (ev_I (g := fun i j => i + j) (ev_var rfl) (ev_IC (g := fun i j => i * j) ev_c ev_c (show _ < _ by decide +kernel))) (by omega)) (by decide) (by omega)) (by rw [htk])) fun H6 e6 => ?_
      refine q_when (b := decide (k < 1024)) (et_is (et_I (g := fun i j => decide (i < j)) (ev_len8 (ev_var rfl) (by rw [Tar.zs_length]; omega)) ev_c) ?_) (fun hb H7 e7 => tn (((e04.trans e5).trans e6).trans e7) rfl fun v H' e h => q v H' e (hP v H' h)) fun hb H7 e7 => ?_
      · rw [Tar.zs_length]
        exact decide_eq_decide.mpr (by omega)
      have hk2 : k = 1024 := by have := of_decide_eq_false hb; omega
      subst hk2
      refine s_retP (P := fun v H' => ∃ p, v = .ref p ∧ H' p = some (.tup [.non, .int ((at' : Int) + 1024), .non])) (ep_if (b := true) (et_is (et_eq (x := vB (Tar.zs (min 512 (1024 - 512)))) (y := vB (Tar.zs 512)) (ev_var rfl) (ev_zeros (n := 512) (ev_c (v := .int 512)) rfl (by decide)) rfl) (decide_eq_true rfl)) (fun _ => EvU.p (eu_tup (ea_cons ev_c (ea_cons (ev_I (g := fun i j => i + j) (ev_var rfl) ev_c) (ea_cons ev_c ea_nil))) (by show 3 ≤ 100000; decide))) (fun h => nomatch h)) fun v H8 e8 h => ?_
      obtain ⟨p, h1, h2⟩ := h
      exact q v H8 ((((e04.trans e5).trans e6).trans e7).trans e8) (hP v H8 ⟨p, _, _, h1, h2⟩)
    · have hrest := hrs.rest hl
      have hh := hdOk ho
      have hblk := hrest.hd ho
      rw [hblk]
      refine q_when (b := false) (et_and (a := true) (b := false) (et_is (et_eq (x := vN at') (y := vN at') (ev_var rfl) (ev_var rfl) rfl) (decide_eq_true rfl)) fun _ => et_is (et_eq (x := vB (hdB m)) (y := vB (Tar.zs 512)) (ev_var rfl) (ev_zeros (n := 512) (ev_c (v := .int 512)) rfl (by decide)) rfl) (decide_eq_false fun z => hd_ne ho ?_)) (fun h => nomatch h) fun _ H5 e5 => ?_
      · have := congrArg Array.toList (V.byt.inj z)
        simpa using this
      refine q_asg (v := .non) (ev_callV (ea_cons (ev_var rfl) (ea_cons (ev_var rfl) ea_nil)) rfl fun H6 e6 => ⟨_, _, _, _, _, _, _, rfl, hh, ⟨lp, rfl, e6 _ _ (e5 _ _ hd4)⟩, rfl⟩) fun H6 e6 => ?_
      refine q_when (b := false) (et_test (ev_is (ev_notN (x := .non) (ev_var rfl)) (by rw [decide_eq_true rfl]; rfl))) (fun h => nomatch h) fun _ H7 e7 => ?_
      refine q_asg (v := vS [kc m]) (ev_callV (ea_cons (ev_var rfl) ea_nil) rfl fun _ _ => ⟨_, _, _, _, _, _, ⟨rfl, hh⟩, rfl⟩) fun H8 e8 => ?_
      have m2 : decide (kc m ∈ ("KL" : Str).cps.toList) = false := by rcases hh.k5 with h | h | h | h | h <;> rw [h] <;> decide
      refine q_if (b := true) (et_is (et_test (ev_niS (ev_var rfl) ev_c)) (by rw [m2]; rfl)) (fun _ H9 e9 => ?_) (fun h => nomatch h)
      have e48 := (((e5.trans e6).trans e7).trans e8).trans e9
      exact s_retP (ep_call (P := AHres a m full (at' + (mB m).length)) (ea_p (ea_cons (ev_var rfl) (ea_cons (ev_var rfl) (ea_cons (ev_var rfl) (ea_cons (ev_var rfl) ea_nil))))) fun vs H10 e10 p => ⟨by rw [p]; rfl, d, at', at', .ref lp, m, full, p, ⟨lp, rfl, e10 _ _ (e48 _ _ hd4)⟩, hd, hat, ho, hrest, fun v H' h => h⟩) fun v H10 e10 h => q v H10 ((e04.trans e48).trans e10) (hP v H10 h)
  · have hl := of_decide_eq_false hl
    have e04 := e02.trans e4
    refine tn e04 rfl fun v H' e h => q v H' e ?_
    rcases hcase with ⟨k, hk, hz, hP⟩ | ⟨m, full, ho, hrs, hP⟩
    · exact hP v H' h
    · have hf := hrs.short ho (by omega)
      subst hf
      exact hP v H' (by unfold AHres; rw [if_neg Bool.false_ne_true]; exact h)
end
end Tl
end

section
set_option Elab.async false
set_option linter.all false
set_option maxRecDepth 100000
set_option maxHeartbeats 4000000
/-! Reading: scan. -/
namespace Tl
open PySem PySem.Spec PyProof.Rows L2 Evl
open Tar (By)
open C8 (Cal Met Mak pe_c pe_mk pe_mt pe_mt0 pe_gc fnScope_by)
/-! ### an archive's places -/
def offA (ms : List Mem) (i : Nat) : Nat := ((ms.take i).map mB).flatten.length
theorem arc_split (ms : List Mem) (i : Nat) : arcB ms = ((ms.take i).map mB).flatten ++ arcB (ms.drop i) := by
  unfold arcB
  conv => lhs; rw [← List.take_append_drop i ms]
  rw [List.map_append, List.flatten_append, List.append_assoc]
theorem arc_rest {ms : List Mem} {c i : Nat} (h : offA ms i ≤ c) : ((arcB ms).take c).drop (offA ms i) = (arcB (ms.drop i)).take (c - offA ms i) := by
  rw [arc_split ms i, List.drop_take]
  unfold offA
  rw [List.drop_left]
theorem offA_succ {ms : List Mem} {i : Nat} {m : Mem} (h : ms[i]? = some m) : offA ms (i + 1) = offA ms i + (mB m).length := by
  unfold offA
  rw [List.take_add_one, h, List.map_append, List.flatten_append, List.length_append]
  simp
theorem arc_cons (m : Mem) (ms : List Mem) : arcB (m :: ms) = mB m ++ arcB ms := by
  unfold arcB
  rw [List.map_cons, List.flatten_cons, List.append_assoc]
theorem arc_step {ms : List Mem} {c i : Nat} (h : offA ms i ≤ c) : (ms.length ≤ i ∧ ∃ k, k ≤ 1024 ∧ ((arcB ms).take c).drop (offA ms i) = Tar.zs k) ∨ ∃ m full, ms[i]? = some m ∧ RestS (((arcB ms).take c).drop (offA ms i)) m full ∧ (full = true → offA ms (i + 1) ≤ c ∧ offA ms (i + 1) ≤ ((arcB ms).take c).length) := by
  rw [arc_rest h]
  rcases Nat.lt_or_ge i ms.length with hi | hi
  · right
    have hm : ms[i]? = some ms[i] := List.getElem?_eq_getElem hi
    have hd : ms.drop i = ms[i] :: ms.drop (i + 1) := List.drop_eq_getElem_cons hi
    have hs := offA_succ hm
    rw [hd, arc_cons]
    by_cases hf : (mB ms[i]).length ≤ c - offA ms i
    · refine ⟨ms[i], true, hm, ?_, fun _ => ⟨by omega, ?_⟩⟩
      · unfold RestS
        rw [if_pos rfl]
        refine ⟨(arcB (ms.drop (i + 1))).take (c - offA ms i - (mB ms[i]).length), ?_⟩
        rw [List.take_append, List.take_of_length_le hf]
      · have : offA ms (i + 1) ≤ (arcB ms).length := by
          rw [arc_split ms (i + 1), List.length_append]
          unfold offA
          omega
        rw [List.length_take]
        omega
    · refine ⟨ms[i], false, hm, ?_, fun z => nomatch z⟩
      unfold RestS
      rw [if_neg Bool.false_ne_true]
      refine ⟨c - offA ms i, ?_, by omega⟩
      rw [List.take_append_of_le_length (by omega)]
  · left
    refine ⟨hi, min (c - offA ms i) 1024, Nat.min_le_right _ _, ?_⟩
    rw [List.drop_of_length_le hi]
    show (([] : By) ++ List.replicate 1024 (0 : UInt8)).take (c - offA ms i) = List.replicate _ 0
    rw [List.nil_append, List.take_replicate]
theorem arc_le {ms : List Mem} (h : ∀ m ∈ ms, m.Ok) (hn : ms.length ≤ 10) : (arcB ms).length ≤ 20000 := by
  have := flat_le h
  unfold arcB
  rw [List.length_append, Tar.zs_length]
  omega
section
variable {P : Program} {w : World} {K : PySem.W.Frag} {mg : Str → Option Value} {base : Heap} {a : Ad}
/-- the def under a name, with values that stand in for arguments -/
structure DBD (K : PySem.W.Frag) (mg : Str → Option Value) (x : Str) (st : Stmt) (ps : List Str) (dvs : List V) : Prop where
  ex : ∃ f fd ds, L2.Fun K x x st f fd ∧ mg x = some (.ref f) ∧ Binds K fd ps ds ∧ Vals dvs ds
theorem cald_of {x : Str} {st : Stmt} {N ps : List Str} {dvs : List V} {k : Nat} {sp : Sp} (F : DBD K mg x st ps dvs) (S : FnScope N ps (defScope st)) (len : ∀ vs H Q E, sp vs H Q E → vs.length = ps.length)
    (hbody : ∀ (f : Addr) (cdv : Value) (A : Around) (outer : List Env) (s : Shared) (H : Hp) (vs : List V) (Q : VK) (E : XK), Room k (A.deeper (envOfC x (defScope st) s.heap.objs.size f cdv)) → sp vs H Q E →
      ∃ t, PSs (cxOf L2.CX0 P w K mg base N x (defScope st) f cdv A outer s H E).nox (defBody st) t ∧ t { nx := fun _ H' => Q .non H', rt := Q } (start N vs) H) : Cal P w K mg base (k + 1) x sp dvs := by
  obtain ⟨f, fd, ds, F, hm, b, d⟩ := F.ex
  exact ⟨f, fd, ps, ds, F.ok S len fun cdv A outer s H vs Q E hr h => hbody f cdv A outer s H vs Q E hr h, hm, F.kp, b, d⟩
def RdL (a : Ad) (H : Hp) : List V → List Mem → Prop := Paired fun v m => ∃ q o p, v = .ref q ∧ H q = some (.tup [o, .ref p]) ∧ MemAt a H p m
theorem RdL.mono {H H' : Hp} {xs : List V} {ms : List Mem} (A : Apart a) (e : ExT a H H') (h : RdL a H xs ms) : RdL a H' xs ms := L2.Paired.mapP h fun _ _ z => let ⟨q, o, p, h1, h2, h3⟩ := z; ⟨q, o, p, h1, e _ _ h2 (.inl ⟨_, rfl⟩), h3.mono A e⟩
theorem q_par3P {D : Ends} {tz : TS} {σ : L2.St} {H : Hp} {ta : TA} {i j l : Nat} {Pa : List V → Hp → Prop} (h : EvAP ta σ H Pa) (k : ∀ vs H1, Ex H H1 → Pa vs H1 → ∃ u v w, vs = [u, v, w] ∧ tz D (((σ.set i (some u)).set j (some v)).set l (some w)) H1) : tSeq (tPar3 i j l ta) tz D σ H := h H (Ex.refl H) _ fun vs H1 e p => k vs H1 e p
abbrev nm_scan : List Str := ["data", "offset", "found", "trouble", "at", "member", "end"]
theorem sc_scan : FnScope nm_scan ["data", "offset"] (defScope s_scan) := fnScope_by (by decide +kernel)
def rScan (a : Ad) : List V → Hp → (V → Hp → Prop) → Prop := fun vs _ Pz => ∃ (ms : List Mem) (c : Nat), vs = [vB ((arcB ms).take c), .int 0] ∧ (∀ m ∈ ms, m.Ok) ∧ ms.length ≤ 10 ∧
  ∀ t fo es tr n H', n ≤ ms.length → H' t = some (.tup [.ref fo, tr]) → H' fo = some (.lst es) → RdL a H' es (ms.take n) → Pz (.ref t) H'
theorem ok_scan (T : Txt K mg a) (M : Mcl K a) (F : DBD K mg "scan" s_scan ["data", "offset"] [.int 0]) (c_look_data : Cal P w K mg base 1 "look_data" (spV 1 fun vs _ z => ∃ b, vs = [.byt b] ∧ z = .non) []) (c_is_within : Cal P w K mg base 2 "is_within" (spV 3 rWithin) [])
    (c_look_at : Cal P w K mg base 8 "look_at" (spP 2 (rLA a)) []) : Cal P w K mg base 9 "scan" (spP 2 (rScan a)) [.int 0] := by
  refine cald_of F sc_scan (fun _ _ _ _ h => h.1) fun f cdv A outer s H vs Q E hr h => ⟨_, (pss_cons (ps_expr (C8.pe_c c_look_data hr (by decide) rfl (pa_cons (pv 0) pa_nil)))
    (pss_cons (ps_if (pt_not (pt_val (C8.pe_c c_is_within hr (by decide) rfl (pa_cons (pv 1) (pa_cons pe_int (pa_cons (pe_callB call_len (by rfl) T.b_len PySem.boot_len (pa_cons (pv 0) pa_nil)) pa_nil)))))) (pss_one ps_never) pss_nil)
    (pss_cons (ps_par3 (i := 2) (j := 3) (l := 4) (by rfl) sc_scan.nd rfl rfl rfl (by decide) (by decide) (by decide) rfl rfl rfl (pa_cons (pe_lst pa_nil) (pa_cons pe_non (pa_cons (pv 1) pa_nil))) (by rfl))
    (pss_one (ps_while PassesOwn.never (pt_val pe_bl) (pss_cons (ps_asg (C8.pe_c c_look_at hr (by decide) rfl (pa_cons (pv 0) (pa_cons (pv 4) pa_nil))) (pg_tup rfl (pgs_cons (pg_name (i := 5) sc_scan.nd rfl (Or.inl rfl)) (pgs_cons (pg_name (i := 6) sc_scan.nd rfl (Or.inl rfl)) (pgs_cons (pg_name (i := 3) sc_scan.nd rfl (Or.inl rfl)) pgs_nil)))))
    (pss_cons (ps_if (pt_cmpR op_isN (pv 5) pe_non (nomark _)) (pss_one (ps_ret (pe_tup (pa_cons (pv 2) (pa_cons (pv 3) pa_nil))))) pss_nil)
    (pss_cons (ps_expr (pe_bm PySem.F.plainAttrs_list PySem.F.slot_list_append PySem.F.type_list_append mt_append (pv 2) (pa_cons (pe_tup (pa_cons (pv 4) (pa_cons (pv 5) pa_nil))) pa_nil)))
    (pss_one (ps_set (i := 4) sc_scan.nd rfl (Or.inl rfl) (pv 6))))))))))), ?_⟩
  obtain ⟨_, _, ⟨ms, c, rfl, hok, hn, hP⟩, q⟩ := h
  have hle : ((arcB ms).take c).length ≤ 20000 := by
    have := arc_le hok hn
    rw [List.length_take]
    omega
  refine q_drop (ev_callV (ea_cons (ev_var rfl) ea_nil) rfl fun _ _ => ⟨_, rfl, rfl⟩) fun H1 e1 => ?_
  refine q_when (b := false) (et_nT (et_B (ev_is (ev_callV (z := .bl (decide ((0 : Int) ≤ 0) && decide ((0 : Int) ≤ (((arcB ms).take c).length : Int)))) (ea_cons (ev_var rfl) (ea_cons ev_c (ea_cons (ev_len8 (ev_var rfl) (by omega)) ea_nil))) rfl fun _ _ => ⟨_, _, _, rfl, rfl⟩) (by rw [decide_eq_true (by omega), decide_eq_true (by omega)]; rfl)))) (fun h => nomatch h) fun _ H2 e2 => ?_
  have e02 := e1.trans e2
  have h3 : EvAP (tCons (tLst tNil) (tCons (tC V.non) (tCons (tVar 1) tNil))) (L2.start nm_scan [vB ((arcB ms).take c), V.int 0]) H2 (fun vs H' => ∃ p, vs = [.ref p, .non, .int 0] ∧ H2 p = none ∧ H' p = some (.lst [])) :=
    eap_cons ep_newL fun x H3 e3 ⟨p, hx, hp0, hp⟩ => by
      subst hx
      exact fun H4 e4 Q4 q4 => (ea_cons (ev_c (v := V.non)) (ea_cons (ev_var (v := .int 0) (i := 1) rfl) ea_nil)) H4 e4 _ fun H5 e5 => q4 _ H5 e5 ⟨p, rfl, hp0, e5 _ _ (e4 _ _ hp)⟩
  refine q_par3P h3 fun vs H3 e3 ⟨fo, hv, hfo0, hfo⟩ => ⟨_, _, _, hv, ?_⟩
  have hfo00 := fresh_back e02 hfo0
  refine s_while (fun m σ' H' => ∃ i, m = ms.length - i ∧ i ≤ ms.length ∧ offA ms i ≤ c ∧ offA ms i ≤ ((arcB ms).take c).length ∧ (∃ tr x y, σ' = [some (vB ((arcB ms).take c)), some (.int 0), some (.ref fo), some tr, some (vN (offA ms i)), x, y]) ∧ Ex H H' ∧ ∃ es, H' fo = some (.lst es) ∧ RdL a H' es (ms.take i) ∧ es.length = i)
    ms.length ⟨0, rfl, Nat.zero_le _, Nat.zero_le _, Nat.zero_le _, ⟨_, none, none, rfl⟩, e02.trans e3, [], hfo, by rw [List.take_zero]; exact .nil, rfl⟩ ?_
  rintro m0 σ' H4 ⟨i, rfl, hi, hoc, hol, ⟨tr, x, y, rfl⟩, e04, es, hes, hrd, hel⟩
  refine ⟨true, et_B ev_c, fun _ H5 e5 => ?_, fun h => nomatch h⟩
  refine ⟨fun σ' H' => i + 1 ≤ ms.length ∧ offA ms (i + 1) ≤ c ∧ offA ms (i + 1) ≤ ((arcB ms).take c).length ∧ (∃ tr x y, σ' = [some (vB ((arcB ms).take c)), some (.int 0), some (.ref fo), some tr, some (vN (offA ms (i + 1))), x, y]) ∧ Ex H H' ∧ ∃ es, H' fo = some (.lst es) ∧ RdL a H' es (ms.take (i + 1)) ∧ es.length = i + 1,
    fun σ2 H2 h => ⟨ms.length - (i + 1), by omega, i + 1, rfl, h⟩, ?_⟩
  have e05 := e04.trans e5
  have hes5 := e5 _ _ hes
  have stop : ∀ {σ : L2.St} {D : Ends} (v : V) (H6 : Hp), Ex H5 H6 → NoM v H6 → (∀ v H', Ex H H' → (∃ t tr, v = .ref t ∧ H' t = some (.tup [.ref fo, tr]) ∧ H' fo = some (.lst es) ∧ RdL a H' es (ms.take i)) → D.rt v H') → σ = [some (vB ((arcB ms).take c)), some (.int 0), some (.ref fo), some tr, some (vN (offA ms i)), x, y] →
      gTup K 3 (gCons (gName 5) (gCons (gName 6) (gCons (gName 3) gNil))) v σ H6 (tSeq (tIfS (tTest (tOp (fun x y H Q => y = V.non ∧ Q (V.bl (decide (x = V.non))) H) (tVar 5) (tC V.non))) (tRet (tTup (tCons (tVar 2) (tCons (tVar 3) tNil)))) tNext)
          (tSeq (tDrop (tBM K "list" rAppend (tVar 2) (tCons (tTup (tCons (tVar 4) (tCons (tVar 5) tNil))) tNil))) (tAsg (tVar 6) (gName 4))) D) := fun {σ D} v H6 e6 hv k hs => by
    obtain ⟨t, e, z, rfl, ht⟩ := hv
    subst hs
    refine ⟨t, _, rfl, st_of ht, rfl, _, _, rfl, _, _, rfl, _, _, rfl, rfl, ?_⟩
    refine q_if (b := true) (et_is (et_isN (ev_var rfl)) (decide_eq_true rfl)) (fun _ H7 e7 => ?_) (fun h => nomatch h)
    refine s_retP (EvU.p (eu_tup (ea_cons (ev_var rfl) (ea_cons (ev_var rfl) ea_nil)) (by show 2 ≤ 100000; decide))) fun v H8 e8 ⟨t2, hv, ht2⟩ => k v H8 (e05.trans ((e6.trans e7).trans e8)) ⟨t2, z, hv, ht2, e8 _ _ (e7 _ _ (e6 _ _ hes5)), hrd.mono M.ap (ExT.of (e5.trans ((e6.trans e7).trans e8)))⟩
  have fin : ∀ v H', Ex H H' → (∃ t tr, v = .ref t ∧ H' t = some (.tup [.ref fo, tr]) ∧ H' fo = some (.lst es) ∧ RdL a H' es (ms.take i)) → Q v H' := fun v H' e ⟨t, tr, hv, h1, h2, h3⟩ => by
    subst hv
    exact q _ H' e (hP t fo es tr i H' hi h1 h2 h3)
  rcases arc_step hoc with ⟨hmi, k, hk, hz⟩ | ⟨m, full, hm, hrs, hnx⟩
  · have hc : EvP (tCall (spP 2 (rLA a)) [] C8.E0 (tCons (tVar 0) (tCons (tVar 4) tNil))) [some (vB ((arcB ms).take c)), some (.int 0), some (.ref fo), some tr, some (vN (offA ms i)), x, y] H5 NoM := ep_call (ea_p (ea_cons (ev_var rfl) (ea_cons (ev_var rfl) ea_nil))) fun vs H6 e6 p => ⟨by rw [p]; rfl, (arcB ms).take c, offA ms i, p, hle, hol, .inl ⟨k, hk, hz, fun v H' h => h⟩⟩
    exact hc H5 (Ex.refl H5) _ fun v H6 e6 hv => stop v H6 e6 hv fin rfl
  · have hom := hok m (List.mem_of_getElem? hm)
    have hc : EvP (tCall (spP 2 (rLA a)) [] C8.E0 (tCons (tVar 0) (tCons (tVar 4) tNil))) [some (vB ((arcB ms).take c)), some (.int 0), some (.ref fo), some tr, some (vN (offA ms i)), x, y] H5 (AHres a m full (offA ms i + (mB m).length)) := ep_call (ea_p (ea_cons (ev_var rfl) (ea_cons (ev_var rfl) ea_nil))) fun vs H6 e6 p => ⟨by rw [p]; rfl, (arcB ms).take c, offA ms i, p, hle, hol, .inr ⟨m, full, hom, hrs, fun v H' h => h⟩⟩
    refine hc H5 (Ex.refl H5) _ fun v H6 e6 hv => ?_
    unfold AHres at hv
    cases full with
    | false =>
      rw [if_neg Bool.false_ne_true] at hv
      exact stop v H6 e6 hv fin rfl
    | true =>
      rw [if_pos rfl] at hv
      obtain ⟨t, p, rfl, ht, hma⟩ := hv
      obtain ⟨n1, n2⟩ := hnx rfl
      refine ⟨t, _, rfl, st_of ht, rfl, _, _, rfl, _, _, rfl, _, _, rfl, rfl, ?_⟩
      refine q_when (b := false) (et_is (et_isN (x := .ref p) (ev_var rfl)) (decide_eq_false fun z => nomatch z)) (fun h => nomatch h) fun _ H7 e7 => ?_
      have e57 := e6.trans e7
      refine q_appU (e57 _ _ hes5) (ev_var rfl) (eu_tup (ea_cons (ev_var rfl) (ea_cons (ev_var rfl) ea_nil)) (by show 2 ≤ 100000; decide)) (by omega) fun t2 H8 ht20 e8 ht2 => ?_
      have hfo8 := e8 _ _ (e57 _ _ hes5)
      have hlt : i < ms.length := by
        rcases Nat.lt_or_ge i ms.length with z | z
        · exact z
        · rw [List.getElem?_eq_none z] at hm
          cases hm
      refine s_asg (ev_var rfl) fun H9 e9 => ⟨hlt, n1, n2, ⟨.non, some (.ref p), some (vN (offA ms i + (mB m).length)), by rw [offA_succ hm]; rfl⟩, (Ex.mut (e05.trans (e57.trans e8)) hfo00).trans e9, _, e9 _ _ upd_same, ?_, by rw [List.length_append, hel]; rfl⟩
      have st : ExT a H8 (upd H8 fo (.lst (es ++ [.ref t2]))) := ExT.put hfo8 stay_lst
      refine RdL.mono M.ap (ExT.of e9) ?_
      rw [List.take_add_one, hm]
      refine paired_app (hrd.mono M.ap ((ExT.of (e5.trans (e57.trans e8))).trans st)) (.cons ⟨t2, vN (offA ms i), p, rfl, ?_, hma.mono M.ap ((ExT.of (e7.trans e8)).trans st)⟩ .nil)
      rw [upd_ne (fun z => by rw [z, hfo8] at ht2; cases ht2)]
      exact ht2
end
end Tl
end

section
set_option Elab.async false
set_option linter.all false
set_option maxRecDepth 100000
set_option maxHeartbeats 4000000
/-! list(zip(a, b, strict=True)) of two lists of one length. -/
namespace Tlz
open PySem PySem.W PyProof.Rows
abbrev ZIs (h : Heap) (z TI TO : Addr) (u : Value) (f : Bool) : Prop :=
  h.get? z = some { cls := .type "zip", dict := none, data := .fields #[u, .bool f, .bool true, .ref TI, .ref TO], slots := #[] }
section
variable {prog : Program} {w : World} {A : Around} {E : Value → Shared → Prop} {s : Shared} {z TI TO T i1 i2 l1 l2 : Addr} {k : Nat} {xs ys : Array Value} {x y a b : Value} {f : Bool}
theorem orEnd_item {it l : Addr} {i : Nat} {items} {x : Value} {Q : Option Value → Shared → Prop} (hit : s.heap.IsListIter it l i) (hl : s.heap.IsList l items) (hx : items[i]? = some x)
    (hQ : ∀ h', h'.IsListIter it l (i + 1) → Heap.SameBut it s.heap h' → Q (some x) { s with heap := h' }) : wpAny (model prog w) A (Builtin.SmallTypes.nextOrEnd (.ref it)) Q E s := by
  unfold Builtin.SmallTypes.nextOrEnd
  exact wpAny_bind (wpAny_attempt (wpAny_nextOf_list_item hit hl hx fun h' a1 a2 => wpAny_pure (hQ h' a1 a2)))
theorem orEnd_end {it l : Addr} {i : Nat} {items} {Q : Option Value → Shared → Prop} (hh : A.handled = none) (hit : s.heap.IsListIter it l i) (hl : s.heap.IsList l items) (hx : items[i]? = none)
    (hQ : ∀ h', Heap.ExtBut it s.heap h' → Q none { s with heap := h' }) : wpAny (model prog w) A (Builtin.SmallTypes.nextOrEnd (.ref it)) Q E s := by
  unfold Builtin.SmallTypes.nextOrEnd
  refine wpAny_bind (wpAny_attempt (wpAny_nextOf_list_end hh hit hl hx fun h' e a1 a2 => ?_))
  obtain ⟨o, ho, hc⟩ := a2
  refine wpAny_bind (wpAny_isInstance (T := "StopIteration") (b := true) ⟨o, ho, hc⟩ isSubtype_stop ?_)
  exact wpAny_pure (hQ h' a1)
/-- the first turn: its own tuple is free -/
theorem z_item0 {Q : Value → Shared → Prop} (D : ZipApart z TI TO i1 i2 l1 l2) (qz : ZIs s.heap z TI TO .none false) (qI : IsPair s.heap TI (.ref i1) (.ref i2)) (qO : IsPair s.heap TO a b)
    (q1 : s.heap.IsListIter i1 l1 k) (q2 : s.heap.IsListIter i2 l2 k) (ql1 : s.heap.IsList l1 xs) (ql2 : s.heap.IsList l2 ys) (hx : xs[k]? = some x) (hy : ys[k]? = some y)
    (hQ : ∀ h', ZIs h' z TI TO (rawInt s.heap.objs.size) false → h'.IsListIter i1 l1 (k + 1) → h'.IsListIter i2 l2 (k + 1) → IsPair h' s.heap.objs.size x y → h'.objs.size = s.heap.objs.size + 1 →
      (∀ c o, c ≠ z → c ≠ TO → c ≠ i1 → c ≠ i2 → s.heap.get? c = some o → h'.get? c = some o) → Q (.ref s.heap.objs.size) { s with heap := h' }) :
    wpAny (model prog w) A (Builtin.«zip.__next__» ⟨[.ref z], []⟩) (fun fin s' => ∃ v, fin = .done (.ret v) ∧ Q v s') E s := by
  show wpAny _ _ (field (.ref z) 2 >>= _) _ _ _
  refine wpAny_bind (wpAny_field qz rfl (x := .bool true) rfl ?_)
  show wpAny _ _ (field (.ref z) 3 >>= _) _ _ _
  refine wpAny_bind (wpAny_field qz rfl (x := .ref TI) rfl ?_)
  refine wpAny_bind (wpAny_seqItems qI rfl ?_)
  show wpAny _ _ (Builtin.SmallTypes.ownedTupleIsFree (.ref z) >>= _) _ _ _
  refine wpAny_bind ?_
  unfold Builtin.SmallTypes.ownedTupleIsFree
  refine wpAny_bind (wpAny_field qz rfl (x := .none) rfl (wpAny_pure ?_))
  simp only [if_true]
  refine wpAny_bind (wpAny_rule ?_)
  refine wpAny_bind (wpAny_field qz rfl (x := .ref TO) rfl ?_)
  refine wpAny_bind (wpAny_setField_rec qz (by simp) fun g1 qz1 r1 => ?_)
  replace qz1 : ZIs g1 z TI TO .ellipsis false := qz1
  refine wpAny_bind ?_
  simp only [List.zipIdx_cons, List.zipIdx_nil, List.forIn_cons, List.forIn_nil]
  refine wpAny_bind (wpAny_bind (wpAny_onRaise ?_))
  show wpAny _ _ (Builtin.SmallTypes.nextOrEnd (.ref i1)) _ _ _
  refine orEnd_item (q1.extBut r1.extBut D.i1z) (ql1.extBut r1.extBut D.l1z) hx fun g2 q12 r2 => ?_
  have qO2 : IsPair g2 TO a b := r2.extBut _ _ D.TOi1 (r1.extBut _ _ D.TOz qO)
  refine wpAny_bind (wpAny_seqItems qO2 rfl ?_)
  refine wpAny_bind (wpAny_updateSeq_pair qO2 fun g3 qO3 r3 => ?_)
  replace qO3 : IsPair g3 TO x b := qO3
  refine wpAny_bind (wpAny_letGo (wpAny_pure ?_))
  refine wpAny_bind (wpAny_bind (wpAny_onRaise ?_))
  show wpAny _ _ (Builtin.SmallTypes.nextOrEnd (.ref i2)) _ _ _
  refine orEnd_item (((q2.extBut r1.extBut D.i2z).extBut r2.extBut D.i12.symm).extBut r3.extBut D.TOi2.symm)
    (((ql2.extBut r1.extBut D.l2z).extBut r2.extBut D.l2i1).extBut r3.extBut D.l2TO) hy fun g4 q24 r4 => ?_
  have qO4 : IsPair g4 TO x b := r4.extBut _ _ D.TOi2 qO3
  refine wpAny_bind (wpAny_seqItems qO4 rfl ?_)
  refine wpAny_bind (wpAny_updateSeq_pair qO4 fun g5 qO5 r5 => ?_)
  replace qO5 : IsPair g5 TO x y := qO5
  refine wpAny_bind (wpAny_letGo (wpAny_pure (wpAny_pure ?_)))
  refine wpAny_bind (wpAny_seqItems qO5 rfl ?_)
  refine wpAny_bind (wpAny_newTuple ?_)
  have n5 : g5.objs.size = s.heap.objs.size := by rw [r5.1, r4.1, r3.1, r2.1, r1.1]
  have qz5 : ZIs g5 z TI TO .ellipsis false := r5.extBut _ _ D.TOz.symm (r4.extBut _ _ D.i2z.symm (r3.extBut _ _ D.TOz.symm (r2.extBut _ _ D.i1z.symm qz1)))
  have k5 : ∀ c o, c ≠ z → c ≠ TO → c ≠ i1 → c ≠ i2 → s.heap.get? c = some o → g5.get? c = some o := fun c o c1 c2 c3 c4 e =>
    r5.extBut _ _ c2 (r4.extBut _ _ c4 (r3.extBut _ _ c2 (r2.extBut _ _ c3 (r1.extBut _ _ c1 e))))
  have q15 : g5.IsListIter i1 l1 (k + 1) := ((q12.extBut r3.extBut D.TOi1.symm).extBut r4.extBut D.i12).extBut r5.extBut D.TOi1.symm
  have q25 : g5.IsListIter i2 l2 (k + 1) := q24.extBut r5.extBut D.TOi2.symm
  have zl : z < g5.objs.size := Heap.lt_size qz5
  show wpAny _ _ (Builtin.SmallTypes.ownedTupleHandOut (.ref z) (.ref g5.objs.size) >>= _) _ _ _
  refine wpAny_bind ?_
  unfold Builtin.SmallTypes.ownedTupleHandOut
  have qz6 : ZIs (g5.push { cls := .type "tuple", data := .seq #[x, y] }) z TI TO .ellipsis false := Heap.get?_push_of_some _ qz5
  refine wpAny_bind (wpAny_setField_rec qz6 (by simp) fun g7 qz7 r7 => ?_)
  replace qz7 : ZIs g7 z TI TO (rawInt g5.objs.size) false := qz7
  refine wpAny_setField_rec qz7 (by simp) fun g8 qz8 r8 => ?_
  replace qz8 : ZIs g8 z TI TO (rawInt g5.objs.size) false := qz8
  have up : ∀ c o, c ≠ z → g5.get? c = some o → g8.get? c = some o := fun c o c1 e => r8.extBut _ _ c1 (r7.extBut _ _ c1 (Heap.get?_push_of_some _ e))
  have qT8 : IsPair g8 g5.objs.size x y := r8.extBut _ _ (Nat.ne_of_gt zl) (r7.extBut _ _ (Nat.ne_of_gt zl) (Heap.get?_push_size _ rfl))
  have n8 : g8.objs.size = g5.objs.size + 1 := by rw [r8.1, r7.1, Heap.size_push]
  rw [n5] at qz8 qT8 n8
  refine wpAny_pure ⟨_, rfl, ?_⟩
  show Q (.ref g5.objs.size) _
  rw [n5]
  exact hQ g8 qz8 (q15.at fun o e => up _ o D.i1z e) (q25.at fun o e => up _ o D.i2z e) qT8 n8 fun c o c1 c2 c3 c4 e => up c o c1 (k5 c o c1 c2 c3 c4 e)
theorem z_held {oT : Obj} {Q : Bool → Shared → Prop} (qz : ZIs s.heap z TI TO (rawInt T) f) (hT : s.heap.get? T = some oT)
    (h : ∀ h', ZIs h' z TI TO (rawInt T) true → Heap.SameBut z s.heap h' → Q false { s with heap := h' }) : wpAny (model prog w) A (Builtin.SmallTypes.ownedTupleIsFree (.ref z)) Q E s := by
  unfold Builtin.SmallTypes.ownedTupleIsFree
  refine wpAny_bind (wpAny_field qz rfl (x := rawInt T) rfl ?_)
  show wpAny _ _ (loadIfAlive ((T : Int).toNat) >>= _) _ _ _
  rw [Int.toNat_natCast]
  refine wpAny_bind (kdx_alive hT ?_)
  simp only [Option.isNone_some, Bool.false_eq_true, if_false]
  refine wpAny_bind (wpAny_field qz rfl (x := .bool f) rfl ?_)
  cases f with
  | true =>
    rw [if_neg (show ¬ ((Value.bool true != Value.bool true) = true) from Bool.false_ne_true)]
    exact wpAny_pure (h s.heap qz (Heap.SameBut.refl _ _))
  | false =>
    rw [if_pos (show (Value.bool false != Value.bool true) = true from rfl)]
    exact wpAny_bind (wpAny_setField_rec qz (by simp) fun g1 qz1 r1 => wpAny_pure (h g1 qz1 r1))
/-- a later turn -/
theorem z_item {oT : Obj} {Q : Value → Shared → Prop} (D : ZipApart z TI TO i1 i2 l1 l2) (qz : ZIs s.heap z TI TO (rawInt T) f) (hT : s.heap.get? T = some oT) (qI : IsPair s.heap TI (.ref i1) (.ref i2))
    (q1 : s.heap.IsListIter i1 l1 k) (q2 : s.heap.IsListIter i2 l2 k) (ql1 : s.heap.IsList l1 xs) (ql2 : s.heap.IsList l2 ys) (hx : xs[k]? = some x) (hy : ys[k]? = some y)
    (hQ : ∀ h', ZIs h' z TI TO (rawInt T) true → h'.IsListIter i1 l1 (k + 1) → h'.IsListIter i2 l2 (k + 1) → IsPair h' s.heap.objs.size x y → h'.objs.size = s.heap.objs.size + 1 →
      (∀ c o, c ≠ z → c ≠ i1 → c ≠ i2 → s.heap.get? c = some o → h'.get? c = some o) → Q (.ref s.heap.objs.size) { s with heap := h' }) :
    wpAny (model prog w) A (Builtin.«zip.__next__» ⟨[.ref z], []⟩) (fun fin s' => ∃ v, fin = .done (.ret v) ∧ Q v s') E s := by
  show wpAny _ _ (field (.ref z) 2 >>= _) _ _ _
  refine wpAny_bind (wpAny_field qz rfl (x := .bool true) rfl ?_)
  show wpAny _ _ (field (.ref z) 3 >>= _) _ _ _
  refine wpAny_bind (wpAny_field qz rfl (x := .ref TI) rfl ?_)
  refine wpAny_bind (wpAny_seqItems qI rfl ?_)
  show wpAny _ _ (Builtin.SmallTypes.ownedTupleIsFree (.ref z) >>= _) _ _ _
  refine wpAny_bind (z_held qz hT fun g1 qz1 r1 => ?_)
  simp only [Bool.false_eq_true, if_false]
  refine wpAny_bind ?_
  rw [← Array.forIn_toList]
  simp only [List.forIn_cons, List.forIn_nil]
  refine wpAny_bind (wpAny_bind (wpAny_holding ?_))
  show wpAny _ _ (Builtin.SmallTypes.nextOrEnd (.ref i1)) _ _ _
  refine orEnd_item (s := { s with heap := g1 }) (q1.extBut r1.extBut D.i1z) (ql1.extBut r1.extBut D.l1z) hx fun g2 q12 r2 => ?_
  refine wpAny_pure ?_
  refine wpAny_bind (wpAny_bind (wpAny_holding ?_))
  show wpAny _ _ (Builtin.SmallTypes.nextOrEnd (.ref i2)) _ _ _
  refine orEnd_item (s := { s with heap := g2 }) ((q2.extBut r1.extBut D.i2z).extBut r2.extBut D.i12.symm) ((ql2.extBut r1.extBut D.l2z).extBut r2.extBut D.l2i1) hy fun g3 q23 r3 => ?_
  refine wpAny_pure (wpAny_pure ?_)
  show wpAny _ _ (newTuple [x, y] >>= _) _ _ _
  refine wpAny_bind (wpAny_newTuple ?_)
  have n3 : g3.objs.size = s.heap.objs.size := by rw [r3.1, r2.1, r1.1]
  have qz3 : ZIs g3 z TI TO (rawInt T) true := r3.extBut _ _ D.i2z.symm (r2.extBut _ _ D.i1z.symm qz1)
  have kp : ∀ c o, c ≠ z → c ≠ i1 → c ≠ i2 → s.heap.get? c = some o → g3.get? c = some o := fun c o c1 c2 c3 e => r3.extBut _ _ c3 (r2.extBut _ _ c2 (r1.extBut _ _ c1 e))
  have q13 : g3.IsListIter i1 l1 (k + 1) := q12.extBut r3.extBut D.i12
  refine wpAny_pure ⟨_, rfl, ?_⟩
  show Q (.ref g3.objs.size) _
  have hp : IsPair (g3.push { cls := .type "tuple", data := .seq #[x, y] }) g3.objs.size x y := Heap.get?_push_size _ rfl
  have n4 : (g3.push { cls := .type "tuple", data := .seq #[x, y] }).objs.size = g3.objs.size + 1 := Heap.size_push ..
  rw [n3] at hp n4 ⊢
  exact hQ _ (Heap.get?_push_of_some _ qz3) (q13.at fun o e => Heap.get?_push_of_some _ e) (q23.at fun o e => Heap.get?_push_of_some _ e) hp n4 fun c o c1 c2 c3 e => Heap.get?_push_of_some _ (kp c o c1 c2 c3 e)
theorem z_stop {Q : Fin → Shared → Prop} (hh : A.handled = none) (hE : ∀ h' e, (∀ c o, s.heap.get? c = some o → h'.get? c = some o) → (∃ o, h'.get? e = some o ∧ o.cls = .type "StopIteration") → E (.ref e) { s with heap := h' }) :
    wpAny (model prog w) A (Builtin.SmallTypes.stopIteration : Sem Fin) Q E s := by
  unfold Builtin.SmallTypes.stopIteration
  refine wpAny_bind ?_
  simp only [newExc, newTuple]
  refine wpAny_bind (wpAny_newObj_type ?_ (by size_fits))
  refine wpAny_bind (m := firstArgMember _ _) (wpAny_of_eq (a := Value.none) (by first | rfl | (simp only [firstArgMember]; rfl)) ?_)
  refine wpAny_newObj_type ?_ (by size_fits)
  refine wpAny_raiseNew_none hh (hE _ _ (fun c o e => Heap.get?_push_of_some _ (Heap.get?_push_of_some _ e)) ⟨_, Heap.get?_push_size _ rfl, rfl⟩)
/-- the end, no tuple given yet -/
theorem z_end0 {Q : Fin → Shared → Prop} (hh : A.handled = none) (D : ZipApart z TI TO i1 i2 l1 l2) (qz : ZIs s.heap z TI TO .none false) (qI : IsPair s.heap TI (.ref i1) (.ref i2)) (qO : IsPair s.heap TO a b)
    (q1 : s.heap.IsListIter i1 l1 k) (q2 : s.heap.IsListIter i2 l2 k) (ql1 : s.heap.IsList l1 xs) (ql2 : s.heap.IsList l2 ys) (hx : xs[k]? = none) (hy : ys[k]? = none)
    (hE : ∀ h' e, (∀ c o, c ≠ z → c ≠ TO → c ≠ i1 → c ≠ i2 → s.heap.get? c = some o → h'.get? c = some o) → (∃ o, h'.get? e = some o ∧ o.cls = .type "StopIteration") → E (.ref e) { s with heap := h' }) :
    wpAny (model prog w) A (Builtin.«zip.__next__» ⟨[.ref z], []⟩) Q E s := by
  show wpAny _ _ (field (.ref z) 2 >>= _) _ _ _
  refine wpAny_bind (wpAny_field qz rfl (x := .bool true) rfl ?_)
  show wpAny _ _ (field (.ref z) 3 >>= _) _ _ _
  refine wpAny_bind (wpAny_field qz rfl (x := .ref TI) rfl ?_)
  refine wpAny_bind (wpAny_seqItems qI rfl ?_)
  show wpAny _ _ (Builtin.SmallTypes.ownedTupleIsFree (.ref z) >>= _) _ _ _
  refine wpAny_bind ?_
  unfold Builtin.SmallTypes.ownedTupleIsFree
  refine wpAny_bind (wpAny_field qz rfl (x := .none) rfl (wpAny_pure ?_))
  simp only [if_true]
  refine wpAny_bind (wpAny_rule ?_)
  refine wpAny_bind (wpAny_field qz rfl (x := .ref TO) rfl ?_)
  refine wpAny_bind (wpAny_setField_rec qz (by simp) fun g1 qz1 r1 => ?_)
  replace qz1 : ZIs g1 z TI TO .ellipsis false := qz1
  refine wpAny_bind ?_
  simp only [List.zipIdx_cons, List.zipIdx_nil, List.forIn_cons, List.forIn_nil]
  refine wpAny_bind (wpAny_bind (wpAny_onRaise ?_))
  show wpAny _ _ (Builtin.SmallTypes.nextOrEnd (.ref i1)) _ _ _
  refine orEnd_end hh (q1.extBut r1.extBut D.i1z) (ql1.extBut r1.extBut D.l1z) hx fun g2 r2 => ?_
  have qz2 : ZIs g2 z TI TO .ellipsis false := r2 _ _ D.i1z.symm qz1
  refine wpAny_bind (wpAny_setField_rec qz2 (by simp) fun g3 qz3 r3 => ?_)
  refine wpAny_bind ?_
  wp_delta
  rw [if_neg (show ¬ (0 : Nat) > 0 by decide)]
  simp only [List.drop_succ_cons, List.drop_zero, List.zipIdx_cons, List.zipIdx_nil, List.forIn_cons, List.forIn_nil]
  refine wpAny_bind (wpAny_bind (wpAny_bind ?_))
  refine orEnd_end (s := { s with heap := g3 }) hh (((q2.extBut r1.extBut D.i2z).extBut r2 D.i12.symm).extBut r3.extBut D.i2z) (((ql2.extBut r1.extBut D.l2z).extBut r2 D.l2i1).extBut r3.extBut D.l2z) hy fun g4 r4 => ?_
  refine wpAny_pure ?_
  show wpAny _ _ (pure _) _ _ _
  refine wpAny_pure ?_
  refine wpAny_bind (wpAny_rule ?_)
  exact z_stop (s := { s with heap := g4 }) hh fun h' e k2 he => hE h' e (fun c o c1 _ c3 c4 x => k2 c o (r4 c o c4 (r3.extBut c o c1 (r2 c o c3 (r1.extBut c o c1 x))))) he
/-- the end, tuples given -/
theorem z_end {oT : Obj} {Q : Fin → Shared → Prop} (hh : A.handled = none) (D : ZipApart z TI TO i1 i2 l1 l2) (qz : ZIs s.heap z TI TO (rawInt T) f) (hT : s.heap.get? T = some oT) (qI : IsPair s.heap TI (.ref i1) (.ref i2))
    (q1 : s.heap.IsListIter i1 l1 k) (q2 : s.heap.IsListIter i2 l2 k) (ql1 : s.heap.IsList l1 xs) (ql2 : s.heap.IsList l2 ys) (hx : xs[k]? = none) (hy : ys[k]? = none)
    (hE : ∀ h' e, (∀ c o, c ≠ z → c ≠ i1 → c ≠ i2 → s.heap.get? c = some o → h'.get? c = some o) → (∃ o, h'.get? e = some o ∧ o.cls = .type "StopIteration") → E (.ref e) { s with heap := h' }) :
    wpAny (model prog w) A (Builtin.«zip.__next__» ⟨[.ref z], []⟩) Q E s := by
  show wpAny _ _ (field (.ref z) 2 >>= _) _ _ _
  refine wpAny_bind (wpAny_field qz rfl (x := .bool true) rfl ?_)
  show wpAny _ _ (field (.ref z) 3 >>= _) _ _ _
  refine wpAny_bind (wpAny_field qz rfl (x := .ref TI) rfl ?_)
  refine wpAny_bind (wpAny_seqItems qI rfl ?_)
  show wpAny _ _ (Builtin.SmallTypes.ownedTupleIsFree (.ref z) >>= _) _ _ _
  refine wpAny_bind (z_held qz hT fun g1 qz1 r1 => ?_)
  simp only [Bool.false_eq_true, if_false]
  refine wpAny_bind ?_
  rw [← Array.forIn_toList]
  simp only [List.forIn_cons, List.forIn_nil]
  refine wpAny_bind (wpAny_bind (wpAny_holding ?_))
  show wpAny _ _ (Builtin.SmallTypes.nextOrEnd (.ref i1)) _ _ _
  refine orEnd_end (s := { s with heap := g1 }) hh (q1.extBut r1.extBut D.i1z) (ql1.extBut r1.extBut D.l1z) hx fun g2 r2 => ?_
  refine wpAny_bind ?_
  wp_delta
  rw [if_neg (show ¬ (#[] : Array Value).size > 0 by decide)]
  simp only [List.drop_succ_cons, List.drop_zero, List.zipIdx_cons, List.zipIdx_nil, List.forIn_cons, List.forIn_nil]
  refine wpAny_bind (wpAny_bind (wpAny_bind ?_))
  refine orEnd_end (s := { s with heap := g2 }) hh ((q2.extBut r1.extBut D.i2z).extBut r2 D.i12.symm) ((ql2.extBut r1.extBut D.l2z).extBut r2 D.l2i1) hy fun g4 r4 => ?_
  refine wpAny_pure ?_
  show wpAny _ _ (pure _) _ _ _
  refine wpAny_pure ?_
  refine wpAny_bind (wpAny_rule ?_)
  exact z_stop (s := { s with heap := g4 }) hh fun h' e k2 he => hE h' e (fun c o c1 c3 c4 x => k2 c o (r4 c o c4 (r2 c o c3 (r1.extBut c o c1 x)))) he
/-- the walked zip, tuples as given -/
structure ZSt (h : Heap) (z TI TO i1 i2 l1 l2 : Addr) (k : Nat) (as : List Addr) : Prop where
  hd : (as = [] ∧ ZIs h z TI TO .none false ∧ ∃ a b, IsPair h TO a b) ∨ ∃ T rest f oT, as = T :: rest ∧ ZIs h z TI TO (rawInt T) f ∧ h.get? T = some oT
  hI : IsPair h TI (.ref i1) (.ref i2)
  h1 : h.IsListIter i1 l1 k
  h2 : h.IsListIter i2 l2 k
theorem ZSt.zip {h : Heap} {as : List Addr} (S : ZSt h z TI TO i1 i2 l1 l2 k as) : ∃ u f, ZIs h z TI TO u f := by
  rcases S.hd with ⟨_, q, _⟩ | ⟨_, _, f, _, _, q, _⟩
  · exact ⟨_, _, q⟩
  · exact ⟨_, f, q⟩
theorem z_turn {as : List Addr} {Q : Option Value → Shared → Prop} (D : ZipApart z TI TO i1 i2 l1 l2) (S : ZSt s.heap z TI TO i1 i2 l1 l2 k as) (ap : ∀ t ∈ as, t ≠ z ∧ t ≠ TO ∧ t ≠ i1 ∧ t ≠ i2) (ql1 : s.heap.IsList l1 xs) (ql2 : s.heap.IsList l2 ys) (hx : xs[k]? = some x) (hy : ys[k]? = some y)
    (hQ : ∀ h', ZSt h' z TI TO i1 i2 l1 l2 (k + 1) (as ++ [s.heap.objs.size]) → IsPair h' s.heap.objs.size x y → h'.objs.size = s.heap.objs.size + 1 → (∀ c o, c ≠ z → c ≠ TO → c ≠ i1 → c ≠ i2 → s.heap.get? c = some o → h'.get? c = some o) → Q (some (.ref s.heap.objs.size)) { s with heap := h' }) :
    wpAny (model prog w) A (pyNext (.ref z)) Q E s := by
  obtain ⟨u, f0, qz⟩ := S.zip
  have hT : s.TypeIs (.ref z) "zip" := ⟨_, qz, rfl⟩
  unfold pyNext
  refine wpAny_bind (wpAny_attempt (wpAny_callSpecial?_slot (name := Str.ofString "__next__") hT F.slot_zip_next (wpAny_call_entry F.slot_zip_next hT F.entry_zip_next ?_ (F.args_zip_next_1 _))))
  rcases S.hd with ⟨rfl, q, a, b, qO⟩ | ⟨T, rest, f, oT, rfl, q, hoT⟩
  · exact z_item0 D q S.hI qO S.h1 S.h2 ql1 ql2 hx hy fun h' a1 a2 a3 a4 a5 a6 => wpAny_pure (hQ h' ⟨.inr ⟨_, [], _, _, rfl, a1, a4⟩, a6 _ _ D.TIz D.TITO D.TIi1 D.TIi2 S.hI, a2, a3⟩ a4 a5 a6)
  · have at' := ap T List.mem_cons_self
    exact z_item D q hoT S.hI S.h1 S.h2 ql1 ql2 hx hy fun h' a1 a2 a3 a4 a5 a6 => wpAny_pure (hQ h' ⟨.inr ⟨T, rest ++ [_], _, oT, rfl, a1, a6 T oT at'.1 at'.2.2.1 at'.2.2.2 hoT⟩, a6 _ _ D.TIz D.TIi1 D.TIi2 S.hI, a2, a3⟩ a4 a5 fun c o c1 _ c3 c4 e => a6 c o c1 c3 c4 e)
theorem z_done {as : List Addr} {Q : Option Value → Shared → Prop} (hh : A.handled = none) (D : ZipApart z TI TO i1 i2 l1 l2) (S : ZSt s.heap z TI TO i1 i2 l1 l2 k as) (ql1 : s.heap.IsList l1 xs) (ql2 : s.heap.IsList l2 ys) (hx : xs[k]? = none) (hy : ys[k]? = none)
    (hQ : ∀ h', (∀ c o, c ≠ z → c ≠ TO → c ≠ i1 → c ≠ i2 → s.heap.get? c = some o → h'.get? c = some o) → Q none { s with heap := h' }) : wpAny (model prog w) A (pyNext (.ref z)) Q E s := by
  obtain ⟨u, f0, qz⟩ := S.zip
  have hT : s.TypeIs (.ref z) "zip" := ⟨_, qz, rfl⟩
  unfold pyNext
  have last : ∀ h' e, (∀ c o, c ≠ z → c ≠ TO → c ≠ i1 → c ≠ i2 → s.heap.get? c = some o → h'.get? c = some o) → (∃ o, h'.get? e = some o ∧ o.cls = .type "StopIteration") →
      wpAny (model prog w) A (do if ← isInstance (.ref e) (.type "StopIteration") then pure none else throw (.ref e)) Q E { s with heap := h' } := fun h' e hk ⟨o, ho, hc⟩ =>
    wpAny_bind (wpAny_isInstance (T := "StopIteration") (b := true) ⟨o, ho, hc⟩ isSubtype_stop (wpAny_pure (hQ _ hk)))
  refine wpAny_bind (wpAny_attempt (wpAny_callSpecial?_slot (name := Str.ofString "__next__") hT F.slot_zip_next (wpAny_call_entry F.slot_zip_next hT F.entry_zip_next ?_ (F.args_zip_next_1 _))))
  rcases S.hd with ⟨rfl, q, a, b, qO⟩ | ⟨T, rest, f, oT, rfl, q, hoT⟩
  · exact z_end0 hh D q S.hI qO S.h1 S.h2 ql1 ql2 hx hy fun h' e hk he => last h' e hk he
  · exact z_end hh D q hoT S.hI S.h1 S.h2 ql1 ql2 hx hy fun h' e hk he => last h' e (fun c o c1 _ c3 c4 x => hk c o c1 c3 c4 x) he
end
end Tlz
end

section
set_option Elab.async false
set_option linter.all false
set_option maxRecDepth 100000
set_option maxHeartbeats 4000000
/-! zip(a, b, strict=True), list of it. -/
namespace Tlz
open PySem PySem.W PyProof.Rows
theorem tc_zip (a b c : Value) : checkTypeCall "zip" ⟨[a, b], [(Str.ofString "strict", c)]⟩ = pure () := by kernel_rfl
theorem nc_zip (a b c : Value) : checkBuiltinCall "zip.__new__" ⟨[.type "zip", a, b], [(Str.ofString "strict", c)]⟩ = pure () := by kernel_rfl
theorem oi_zip (obj a b c : Value) : argsOk "object.__init__" ⟨[obj, a, b], [(Str.ofString "strict", c)]⟩ := by unfold argsOk; kernel_rfl
abbrev zS (h : Heap) (l1 l2 : Addr) : Heap := (zipH4 h l1 l2).push { cls := .type "zip", data := .fields #[.none, .bool false, .bool true, .ref (zipH2 h l1 l2).objs.size, .ref (zipH3 h l1 l2).objs.size] }
theorem meets_zs (l1 l2 : Addr) (xs ys : Array Value) :
    Meets (Builtin.«zip.__new__» ⟨[.type "zip", .ref l1, .ref l2], [(Str.ofString "strict", .bool true)]⟩) (fun _ R s => s.heap.IsList l1 xs ∧ s.heap.IsList l2 ys ∧
      R (.ok (.ret (.ref (zipH4 s.heap l1 l2).objs.size))) { s with heap := zS s.heap l1 l2 }) :=
  .of_wp fun prog w A R s h => by
    obtain ⟨hp, g, d, tk, os⟩ := s; obtain ⟨hl1, hl2, h⟩ := h
    have hsub := sub_zip
    have hL1 : Heap.IsList (Shared.heap ⟨hp, g, d, tk, os⟩) l1 xs := hl1
    have hL2 : Heap.IsList (Shared.heap ⟨hp.push { cls := .type "list_iterator", data := .fields #[.ref l1, .int 0 0] }, g, d, tk, os⟩) l2 ys := Heap.IsList.push hl2 _
    have e2 : (Str.ofString "strict" != ("strict" : Str)) = false := by decide +kernel
    wp_walk using wpAny_pyIter_list hL1, wpAny_pyIter_list hL2
    exact ⟨_, rfl, h⟩
section
variable {prog : Program} {w : World} {A : Around} {E : Value → Shared → Prop} {s : Shared} {S z TI TO i1 i2 l1 l2 : Addr} {xs ys : Array Value}
theorem call_zs {Q : Value → Shared → Prop} (hl1 : s.heap.IsList l1 xs) (hl2 : s.heap.IsList l2 ys)
    (h : ∀ h', ZSt h' (s.heap.objs.size + 4) (s.heap.objs.size + 2) (s.heap.objs.size + 3) s.heap.objs.size (s.heap.objs.size + 1) l1 l2 0 [] → h'.objs.size = s.heap.objs.size + 5 → (∀ c o, s.heap.get? c = some o → h'.get? c = some o) → Q (.ref (s.heap.objs.size + 4)) { s with heap := h' }) :
    wpAny (model prog w) A (call (.type "zip") [.ref l1, .ref l2] [(Str.ofString "strict", .bool true)]) Q E s := by
  refine callType_newKw F.called_zip (by decide) (tc_zip _ _ _) (nc_zip _ _ _) (fun obj => oi_zip obj _ _ _) F.entry_zip_new (meets_zs l1 l2 xs ys) ⟨hl1, hl2, ?_⟩
  have z1 : (zipH1 s.heap l1).objs.size = s.heap.objs.size + 1 := Heap.size_push ..
  have z2 : (zipH2 s.heap l1 l2).objs.size = s.heap.objs.size + 2 := by rw [Heap.size_push, z1]
  have z3 : (zipH3 s.heap l1 l2).objs.size = s.heap.objs.size + 3 := by rw [Heap.size_push, z2]
  have z4 : (zipH4 s.heap l1 l2).objs.size = s.heap.objs.size + 4 := by rw [Heap.size_push, z3]
  have z5 : (zS s.heap l1 l2).objs.size = s.heap.objs.size + 5 := by rw [Heap.size_push, z4]
  have g5 : (zS s.heap l1 l2).get? (zipH4 s.heap l1 l2).objs.size = some _ := Heap.get?_push_size _ rfl
  have g4 : (zS s.heap l1 l2).get? (zipH3 s.heap l1 l2).objs.size = some _ := Heap.get?_push_of_some _ (Heap.get?_push_size _ rfl)
  have g3 : (zS s.heap l1 l2).get? (zipH2 s.heap l1 l2).objs.size = some _ := Heap.get?_push_of_some _ (Heap.get?_push_of_some _ (Heap.get?_push_size _ rfl))
  have g2 : (zS s.heap l1 l2).get? (zipH1 s.heap l1).objs.size = some _ := Heap.get?_push_of_some _ (Heap.get?_push_of_some _ (Heap.get?_push_of_some _ (Heap.get?_push_size _ rfl)))
  have g1 : (zS s.heap l1 l2).get? s.heap.objs.size = some _ := Heap.get?_push_of_some _ (Heap.get?_push_of_some _ (Heap.get?_push_of_some _ (Heap.get?_push_of_some _ (Heap.get?_push_size _ rfl))))
  show _ ∧ _
  rw [z2, z3, z4] at g5
  rw [z1, z2] at g3
  rw [z3] at g4
  rw [z1] at g2
  rw [z4]
  exact ⟨⟨_, g5, rfl⟩, h _ ⟨.inl ⟨rfl, g5, _, _, g4⟩, g3, ⟨_, g1, rfl, rfl⟩, ⟨_, g2, rfl, rfl⟩⟩ z5 fun c o x =>
    Heap.get?_push_of_some _ (Heap.get?_push_of_some _ (Heap.get?_push_of_some _ (Heap.get?_push_of_some _ (Heap.get?_push_of_some _ x))))⟩
/-- the given tuples -/
structure ZG (lo : Addr) (xs ys : Array Value) (h : Heap) (as : List Addr) : Prop where
  rise : as.Pairwise (· < ·)
  above : ∀ t ∈ as, lo < t
  pairs : ∀ (j : Nat) (t : Addr), as[j]? = some t → ∃ x y, xs[j]? = some x ∧ ys[j]? = some y ∧ IsPair h t x y
theorem ZG.there {lo : Addr} {h : Heap} {as : List Addr} (g : ZG lo xs ys h as) {t : Addr} (ht : t ∈ as) : t < h.objs.size := by
  obtain ⟨j, hj⟩ := List.mem_iff_getElem?.mp ht
  obtain ⟨_, _, _, _, e⟩ := g.pairs j t hj
  exact Heap.lt_size e
/-- list's loop over it -/
theorem z_loop {R : Result → Shared → Prop} (hh : A.handled = none) (D : ZipApart z TI TO i1 i2 l1 l2) (hxy : xs.size = ys.size) (hn : xs.size ≤ sizeLine) (res : Value) {lo : Addr} {hz : Heap} (bz : z ≤ lo) (bO : TO ≤ lo) (b1 : i1 ≤ lo) (b2 : i2 ≤ lo) (bS : S ≤ lo) (bI : TI ≤ lo)
    (nz : S ≠ z) (nO : S ≠ TO) (n1 : S ≠ i1) (n2 : S ≠ i2) (nI : S ≠ TI) (m1 : l1 ≠ S) (m2 : l2 ≠ S)
    (hR : ∀ h' tk acc c as, (∀ b o, b ≠ S → b ≠ z → b ≠ TO → b ≠ i1 → b ≠ i2 → hz.get? b = some o → h'.get? b = some o) → h'.get? S = some { cls := .type "list", dict := none, data := .seq acc c, slots := #[] } → as.length = xs.size → ZG lo xs ys h' as → acc.toList = as.map Value.ref → R (.ok (.ret res)) { s with heap := h', toks := tk }) :
    ∀ (m k : Nat) (h : Heap) (tk c : Nat) (acc : Array Value) (as : List Addr), xs.size - k = m → k ≤ xs.size → ZSt h z TI TO i1 i2 l1 l2 k as → h.IsList l1 xs → h.IsList l2 ys → (∀ b o, b ≠ S → b ≠ z → b ≠ TO → b ≠ i1 → b ≠ i2 → hz.get? b = some o → h.get? b = some o) →
      h.get? S = some { cls := .type "list", dict := none, data := .seq acc c, slots := #[] } → acc.toList = as.map Value.ref → as.length = k → ZG lo xs ys h as → lo < h.objs.size →
      codeAny (model prog w) A (.builtin "list.extend.loop" ⟨[.ref S, .ref z, res], []⟩) R { s with heap := h, toks := tk } := by
  intro m
  induction m with
  | zero =>
    intro k h tk c acc as hm hk hst q1 q2 hkeep hS hacc hal hG hlo
    have e : k = xs.size := by omega
    refine codeAny_builtin PySem.F.entry_extend_loop ?_
    rw [Around.under_plainId PySem.F.plain_extend_loop _]
    show wpAny _ A.in1 (pyNext (.ref z) >>= _) _ _ _
    refine wpAny_bind (z_done (s := { s with heap := h, toks := tk }) (A := A.in1) hh D hst q1 q2 (by simp; omega) (by simp; omega) fun h' he => ?_)
    refine wpAny_pure (hR h' tk acc c as (fun b o c1 c2 c3 c4 c5 x => he b o c2 c3 c4 c5 (hkeep b o c1 c2 c3 c4 c5 x)) (he S _ nz nO n1 n2 hS) (by omega) ⟨hG.rise, hG.above, fun j t hj => ?_⟩ hacc)
    obtain ⟨x, y, e1, e2, e3⟩ := hG.pairs j t hj
    have ab := hG.above t (List.mem_of_getElem? hj)
    exact ⟨x, y, e1, e2, he t _ (Nat.ne_of_gt (Nat.lt_of_le_of_lt bz ab)) (Nat.ne_of_gt (Nat.lt_of_le_of_lt bO ab)) (Nat.ne_of_gt (Nat.lt_of_le_of_lt b1 ab)) (Nat.ne_of_gt (Nat.lt_of_le_of_lt b2 ab)) e3⟩
  | succ m ih =>
    intro k h tk c acc as hm hk hst q1 q2 hkeep hS hacc hal hG hlo
    have hlt : k < xs.size := by omega
    have hlt2 : k < ys.size := by omega
    have hsz : acc.size = k := by rw [← Array.length_toList, hacc, List.length_map, hal]
    refine codeAny_builtin PySem.F.entry_extend_loop ?_
    rw [Around.under_plainId PySem.F.plain_extend_loop _]
    show wpAny _ A.in1 (pyNext (.ref z) >>= _) _ _ _
    have ap : ∀ t ∈ as, t ≠ z ∧ t ≠ TO ∧ t ≠ i1 ∧ t ≠ i2 := fun t ht => by
      have := hG.above t ht
      exact ⟨(Nat.ne_of_gt (Nat.lt_of_le_of_lt bz this)), (Nat.ne_of_gt (Nat.lt_of_le_of_lt bO this)), (Nat.ne_of_gt (Nat.lt_of_le_of_lt b1 this)), (Nat.ne_of_gt (Nat.lt_of_le_of_lt b2 this))⟩
    refine wpAny_bind (z_turn (s := { s with heap := h, toks := tk }) (A := A.in1) D hst ap q1 q2 (Array.getElem?_eq_getElem hlt) (Array.getElem?_eq_getElem hlt2) fun h' hst' ht hz' hkp => ?_)
    dsimp only at hst' ht hz' hkp ⊢
    have hS' := hkp S _ nz nO n1 n2 hS
    have up : ∀ b o, b ≠ S → h'.get? b = some o → (h'.update S (Obj.mapSeq (·.push (Value.ref h.objs.size)))).get? b = some o := fun b o hb e => (Heap.get?_update_other _ _ (Ne.symm hb)).trans e
    have hSl : S < h.objs.size := Heap.lt_size hS
    show wpAny _ A.in1 (updateSeq S (·.push (Value.ref h.objs.size)) >>= _) _ _ _
    refine wpAny_bind ?_
    have st2 : ZSt (h'.update S (Obj.mapSeq (·.push (Value.ref h.objs.size)))) z TI TO i1 i2 l1 l2 (k + 1) (as ++ [h.objs.size]) := by
      refine ⟨?_, up _ _ (Ne.symm nI) hst'.hI, hst'.h1.at fun o e => up _ o (Ne.symm n1) e, hst'.h2.at fun o e => up _ o (Ne.symm n2) e⟩
      rcases hst'.hd with ⟨e, _⟩ | ⟨T, rest, f, oT, e, qz, hoT⟩
      · simp at e
      · refine .inr ⟨T, rest, f, oT, e, up _ _ (Ne.symm nz) qz, up _ _ ?_ hoT⟩
        have hT : T ∈ as ++ [h.objs.size] := by rw [e]; exact List.mem_cons_self
        rcases List.mem_append.mp hT with hT | hT
        · exact Nat.ne_of_gt (Nat.lt_of_le_of_lt bS (hG.above T hT))
        · rw [List.mem_singleton.mp hT]
          exact Nat.ne_of_gt hSl
    refine wpAny_updateSeq hS' rfl (wpAny_pure ⟨plainId_quiet PySem.F.plain_extend_loop _, ih (k + 1) _ tk _ (acc.push (Value.ref h.objs.size)) (as ++ [h.objs.size]) (by omega) hlt st2
      (q1.at fun o e => up l1 o m1 (hkp l1 o D.l1z D.l1TO D.l1i1 D.l1i2 e)) (q2.at fun o e => up l2 o m2 (hkp l2 o D.l2z D.l2TO D.l2i1 D.l2i2 e))
      (fun b o c1 c2 c3 c4 c5 e => up b o c1 (hkp b o c2 c3 c4 c5 (hkeep b o c1 c2 c3 c4 c5 e))) (Heap.get?_update_self _ hS' rfl) (by rw [Array.toList_push, hacc, List.map_append]; rfl) (by rw [List.length_append, hal]; rfl) ⟨?_, ?_, ?_⟩ ?_⟩) (by rw [hsz]; omega) (by show (acc.push (Value.ref h.objs.size)).size ≤ sizeLine + 1; rw [Array.size_push, hsz]; omega)
    · refine List.pairwise_append.mpr ⟨hG.rise, List.pairwise_singleton _ _, fun t ht b hb => ?_⟩
      rw [List.mem_singleton.mp hb]
      exact hG.there ht
    · intro t ht
      rcases List.mem_append.mp ht with ht | ht
      · exact hG.above t ht
      · rw [List.mem_singleton.mp ht]; exact hlo
    · intro j b hj
      rcases Nat.lt_trichotomy j as.length with c1 | c1 | c1
      · rw [List.getElem?_append_left c1] at hj
        obtain ⟨x, y, e1, e2, e3⟩ := hG.pairs j b hj
        have ab := hG.above b (List.mem_of_getElem? hj)
        exact ⟨x, y, e1, e2, up b _ (Nat.ne_of_gt (Nat.lt_of_le_of_lt bS ab)) (hkp b _ (Nat.ne_of_gt (Nat.lt_of_le_of_lt bz ab)) (Nat.ne_of_gt (Nat.lt_of_le_of_lt bO ab)) (Nat.ne_of_gt (Nat.lt_of_le_of_lt b1 ab)) (Nat.ne_of_gt (Nat.lt_of_le_of_lt b2 ab)) e3)⟩
      · subst c1
        have hb : h.objs.size = b := by simpa using hj
        subst hb
        exact ⟨_, _, by rw [hal]; exact Array.getElem?_eq_getElem hlt, by rw [hal]; exact Array.getElem?_eq_getElem hlt2, up _ _ (Nat.ne_of_gt hSl) ht⟩
      · have hnone : (as ++ [h.objs.size])[j]? = none := List.getElem?_eq_none (by rw [List.length_append, List.length_singleton]; omega)
        rw [hnone] at hj; cases hj
    · have e : (h'.update S (Obj.mapSeq (·.push (Value.ref h.objs.size)))).get? h.objs.size = _ := up _ _ (Nat.ne_of_gt hSl) ht
      exact Nat.lt_trans hlo (Heap.lt_size e)
end
end Tlz
end

section
set_option Elab.async false
set_option linter.all false
set_option maxRecDepth 100000
set_option maxHeartbeats 4000000
/-! list(zip(a, b, strict=True)): the list made. -/
namespace Tlz
open PySem PySem.W PyProof.Rows
theorem zip_no_len : typeLookup (.type "zip") "__len__" = pure none := am_miss_of_fast (by decide +kernel)
theorem zip_no_hint : typeLookup (.type "zip") "__length_hint__" = pure none := am_miss_of_fast (by decide +kernel)
section
variable {prog : Program} {w : World} {A : Around} {E : Value → Shared → Prop} {s : Shared} {S z TI TO i1 i2 l1 l2 : Addr} {xs ys : Array Value}
theorem z_iter {Q : Value → Shared → Prop} (hT : s.TypeIs (.ref z) "zip") (h : Q (.ref z) s) : wpAny (model prog w) A (pyIter (.ref z)) Q E s := by
  refine wpAny_pyIter_slot hT F.slot_zip_iter (wpAny_call_entry F.slot_zip_iter hT F.entry_zip_iter ?_ (F.args_zip_iter_1 _))
  show wpAny _ _ (ret (.ref z)) _ _ s
  exact wpAny_pure ⟨_, rfl, "zip", _, hT, F.slot_zip_next.lookup, h⟩
theorem z_extend {R : Result → Shared → Prop} (hh : A.handled = none) (D : ZipApart z TI TO i1 i2 l1 l2) (hxy : xs.size = ys.size) (hn : xs.size ≤ sizeLine) (res : Value) {lo : Addr} (bz : z ≤ lo) (bO : TO ≤ lo) (b1 : i1 ≤ lo) (b2 : i2 ≤ lo) (bS : S ≤ lo) (bI : TI ≤ lo)
    (nz : S ≠ z) (nO : S ≠ TO) (n1 : S ≠ i1) (n2 : S ≠ i2) (nI : S ≠ TI) (m1 : l1 ≠ S) (m2 : l2 ≠ S) (hst : ZSt s.heap z TI TO i1 i2 l1 l2 0 []) (q1 : s.heap.IsList l1 xs) (q2 : s.heap.IsList l2 ys) (c0 : Nat) (hS : s.heap.get? S = some { cls := .type "list", data := .seq #[] c0 }) (hlo : lo < s.heap.objs.size)
    (hR : ∀ h' tk acc c as, (∀ b o, b ≠ S → b ≠ z → b ≠ TO → b ≠ i1 → b ≠ i2 → s.heap.get? b = some o → h'.get? b = some o) → h'.get? S = some { cls := .type "list", dict := none, data := .seq acc c, slots := #[] } → as.length = xs.size → ZG lo xs ys h' as → acc.toList = as.map Value.ref → R (.ok (.ret res)) { s with heap := h', toks := tk }) :
    wpAny (model prog w) A.in1 (Builtin.List.listExtendWith (.ref S) (.ref z) res)
      (fun fin s' => match fin with | .done f => R (.ok f) s' | .again c' => c'.quiet = true ∧ codeAny (model prog w) A c' R s') (fun e s' => R (.error e) s') s := by
  obtain ⟨u, f0, qz⟩ := hst.zip
  have hT : s.TypeIs (.ref z) "zip" := ⟨_, qz, rfl⟩
  have key : ∀ (h : Heap) (c1 : Nat), (∀ b o, b ≠ S → s.heap.get? b = some o → h.get? b = some o) → h.get? S = some { cls := .type "list", data := .seq #[] c1 } → lo < h.objs.size →
      codeAny (model prog w) A (.builtin "list.extend.loop" ⟨[.ref S, .ref z, res], []⟩) R { s with heap := h } := fun h c1 kp hS1 hl => by
    refine z_loop (s := s) (xs := xs) (ys := ys) hh D hxy hn res bz bO b1 b2 bS bI nz nO n1 n2 nI m1 m2 hR xs.size 0 h s.toks c1 #[] [] (Nat.sub_zero _) (Nat.zero_le _) ?_ (q1.at fun o e => kp l1 o m1 e) (q2.at fun o e => kp l2 o m2 e) (fun b o c1 _ _ _ _ e => kp b o c1 e) hS1 rfl rfl ⟨List.Pairwise.nil, (fun _ ha => nomatch ha), (fun j a hj => by simp at hj)⟩ hl
    rcases hst.hd with ⟨_, qz, a, b, qO⟩ | ⟨_, _, _, _, e, _⟩
    · exact ⟨.inl ⟨rfl, kp _ _ (Ne.symm nz) qz, a, b, kp _ _ (Ne.symm nO) qO⟩, kp _ _ (Ne.symm nI) hst.hI, hst.h1.at fun o e => kp _ o (Ne.symm n1) e, hst.h2.at fun o e => kp _ o (Ne.symm n2) e⟩
    · cases e
  unfold Builtin.List.listExtendWith
  refine wpAny_bind (wpAny_typeOf hT ?_)
  have h1 : Builtin.List.listSameRef (.ref S) (.ref z) = false := by simp [Builtin.List.listSameRef, nz]
  have h2 : (Value.type "zip" == Value.type "list") = false := by decide
  have h3 : (Value.type "zip" == Value.type "tuple") = false := by decide
  simp only [h1, h2, h3, Bool.or_false, Bool.false_eq_true, if_false]
  refine wpAny_bind (z_iter hT ?_)
  refine wpAny_bind (wpAny_holding ?_)
  unfold Builtin.List.listLengthHint
  refine wpAny_bind (wpAny_specialOf hT zip_no_len ?_)
  show wpAny _ A.in1 (specialOf (Value.ref z) (Str.ofString "__length_hint__") >>= _) _ _ _
  refine wpAny_bind (wpAny_specialOf hT zip_no_hint ?_)
  refine wpAny_pure ?_
  refine wpAny_ite_split (fun _ => ?_) (fun _ => wpAny_pure ⟨plainId_quiet PySem.F.plain_extend_loop _, key s.heap c0 (fun b o _ e => e) hS hlo⟩)
  refine wpAny_bind (wpAny_rule ?_)
  refine wpAny_bind ?_
  show wpAny _ _ (updateSeq S (·.push .none) >>= fun _ => updateSeq S (·.pop)) _ _ _
  refine wpAny_bind (wpAny_updateSeq hS rfl ?_)
  have hS2 := Heap.get?_update_self (Obj.mapSeq (·.push Value.none)) hS rfl
  refine wpAny_updateSeq (hz := by seq_fits) hS2 rfl ?_
  have hS3 := Heap.get?_update_self (Obj.mapSeq (·.pop)) hS2 rfl
  have up : ∀ b o, b ≠ S → s.heap.get? b = some o → ((s.heap.update S (Obj.mapSeq (·.push Value.none))).update S (Obj.mapSeq (·.pop))).get? b = some o := fun b o hb e => (Heap.get?_update_other _ _ (Ne.symm hb)).trans ((Heap.get?_update_other _ _ (Ne.symm hb)).trans e)
  have sz : ((s.heap.update S (Obj.mapSeq (·.push Value.none))).update S (Obj.mapSeq (·.pop))).objs.size = s.heap.objs.size := by
    rw [(Heap.SameBut.update ..).1, (Heap.SameBut.update ..).1]
  exact wpAny_pure ⟨plainId_quiet PySem.F.plain_extend_loop _, key _ _ up hS3 (by rw [sz]; exact hlo)⟩
theorem z_list {Q : Value → Shared → Prop} (hh : A.handled = none) (D : ZipApart z TI TO i1 i2 l1 l2) (hxy : xs.size = ys.size) (hn : xs.size ≤ sizeLine) (hst : ZSt s.heap z TI TO i1 i2 l1 l2 0 []) (q1 : s.heap.IsList l1 xs) (q2 : s.heap.IsList l2 ys) (bO : TO < s.heap.objs.size)
    (hQ : ∀ h' tk acc c as, (∀ b o, b ≠ z → b ≠ TO → b ≠ i1 → b ≠ i2 → s.heap.get? b = some o → h'.get? b = some o) → h'.get? s.heap.objs.size = some { cls := .type "list", dict := none, data := .seq acc c, slots := #[] } → as.length = xs.size → ZG s.heap.objs.size xs ys h' as → acc.toList = as.map Value.ref → Q (.ref s.heap.objs.size) { s with heap := h', toks := tk }) :
    wpAny (model prog w) A (call (.type "list") [.ref z]) Q E s := by
  refine callType_codes (Q₁ := fun obj s1 => obj = .ref s.heap.objs.size ∧ s1 = { s with heap := s.heap.push { cls := .type "list", data := .seq #[] } }) PySem.F.called_list (PySem.F.typeCall_list_1 _) PySem.F.entry_list_init (code_list_new _ ⟨rfl, rfl⟩) fun obj s1 h1 => ?_
  obtain ⟨rfl, rfl⟩ := h1
  obtain ⟨u, f0, qz⟩ := hst.zip
  have hS : (s.heap.push { cls := .type "list", data := .seq #[] }).get? s.heap.objs.size = some { cls := .type "list", data := .seq #[] } := Heap.get?_push_size _ rfl
  have lz : z < s.heap.objs.size := Heap.lt_size qz
  have lI : TI < s.heap.objs.size := Heap.lt_size hst.hI
  have li1 : i1 < s.heap.objs.size := let ⟨_, e, _⟩ := hst.h1; Heap.lt_size e
  have li2 : i2 < s.heap.objs.size := let ⟨_, e, _⟩ := hst.h2; Heap.lt_size e
  have ll1 : l1 < s.heap.objs.size := let ⟨_, e, _⟩ := q1; Heap.lt_size e
  have ll2 : l2 < s.heap.objs.size := let ⟨_, e, _⟩ := q2; Heap.lt_size e
  refine ⟨⟨_, hS, rfl⟩, PySem.F.args_list_init_2 _ _, ?_⟩
  show wpAny _ _ (do let old ← Builtin.List.listItems (.ref s.heap.objs.size); Builtin.List.listUpdate (.ref s.heap.objs.size) (fun _ => #[]); letGo old.toList.reverse; Builtin.List.listExtendWith (.ref s.heap.objs.size) (.ref z) .none) _ _ _
  refine wpAny_bind ?_
  unfold Builtin.List.listItems
  refine wpAny_bind (wpAny_seqItems hS rfl (wpAny_pure ?_))
  show wpAny _ _ (updateSeq s.heap.objs.size (fun _ => #[]) >>= fun _ => letGo (#[] : Array Value).toList.reverse >>= fun _ => Builtin.List.listExtendWith (.ref s.heap.objs.size) (.ref z) .none) _ _ _
  refine wpAny_bind (wpAny_updateSeq hS rfl ?_)
  have hS2 := Heap.get?_update_self (Obj.mapSeq (fun _ => (#[] : Array Value))) hS rfl
  have up : ∀ b o, b ≠ s.heap.objs.size → s.heap.get? b = some o → ((s.heap.push { cls := .type "list", data := .seq #[] }).update s.heap.objs.size (Obj.mapSeq (fun _ => (#[] : Array Value)))).get? b = some o := fun b o hb e => (Heap.get?_update_other _ _ (Ne.symm hb)).trans (Heap.get?_push_of_some _ e)
  have sz : ((s.heap.push { cls := .type "list", data := .seq #[] }).update s.heap.objs.size (Obj.mapSeq (fun _ => (#[] : Array Value)))).objs.size = s.heap.objs.size + 1 := by
    rw [(Heap.SameBut.update ..).1, Heap.size_push]
  refine wpAny_bind (wpAny_letGo ?_)
  have st2 : ZSt ((s.heap.push { cls := .type "list", data := .seq #[] }).update s.heap.objs.size (Obj.mapSeq (fun _ => (#[] : Array Value)))) z TI TO i1 i2 l1 l2 0 [] := by
    rcases hst.hd with ⟨_, qz, a, b, qO⟩ | ⟨_, _, _, _, e, _⟩
    · exact ⟨.inl ⟨rfl, up _ _ (Nat.ne_of_lt lz) qz, a, b, up _ _ (Nat.ne_of_lt bO) qO⟩, up _ _ (Nat.ne_of_lt lI) hst.hI, hst.h1.at fun o e => up _ o (Nat.ne_of_lt li1) e, hst.h2.at fun o e => up _ o (Nat.ne_of_lt li2) e⟩
    · cases e
  refine z_extend (lo := s.heap.objs.size) (A := A.in1) hh D hxy hn .none (Nat.le_of_lt lz) (Nat.le_of_lt bO) (Nat.le_of_lt li1) (Nat.le_of_lt li2) (Nat.le_refl _) (Nat.le_of_lt lI) (Nat.ne_of_gt lz) (Nat.ne_of_gt bO) (Nat.ne_of_gt li1) (Nat.ne_of_gt li2) (Nat.ne_of_gt lI) (Nat.ne_of_lt ll1) (Nat.ne_of_lt ll2) st2
    (q1.at fun o e => up _ o (Nat.ne_of_lt ll1) e) (q2.at fun o e => up _ o (Nat.ne_of_lt ll2) e) _ hS2 (by show s.heap.objs.size < Array.size _; rw [sz]; exact Nat.lt_succ_self _) fun h' tk acc c as hk hS' hl hG hacc => ?_
  exact ⟨rfl, hQ h' tk acc c as (fun b o c2 c3 c4 c5 e => hk b o (Nat.ne_of_lt (Heap.lt_size e)) c2 c3 c4 c5 (up b o (Nat.ne_of_lt (Heap.lt_size e)) e)) hS' hl hG hacc⟩
end
end Tlz
end

section
set_option Elab.async false
set_option linter.all false
set_option maxRecDepth 100000
set_option maxHeartbeats 4000000
/-! list(zip(a, b, strict=True)): the rule. -/
namespace Tlz
open PySem PySem.Spec PyProof.Rows L2
def putP : Hp → List Addr → List (V × V) → Hp
  | H, t :: as, q :: r => putP (upd H t (.tup [q.1, q.2])) as r
  | H, _, _ => H
theorem putP_off {b : Addr} : ∀ (as : List Addr) (r : List (V × V)) (H : Hp), b ∉ as → putP H as r b = H b
  | [], _, _, _ => rfl
  | _ :: _, [], _, _ => rfl
  | t :: as, q :: r, H, h => by
    show putP (upd H t (.tup [q.1, q.2])) as r b = H b
    rw [putP_off as r _ (fun z => h (.tail _ z)), upd_ne (fun z => h (by rw [z]; exact .head _))]
theorem putP_at : ∀ (as : List Addr) (r : List (V × V)) (H : Hp), as.Nodup → ∀ (j : Nat) (t : Addr) (q : V × V), as[j]? = some t → r[j]? = some q → putP H as r t = some (.tup [q.1, q.2])
  | [], _, _, _, _, _, _, h, _ => by cases h
  | _ :: _, [], _, _, _, _, _, _, h => by cases h
  | t :: as, q :: r, H, hn, 0, _, _, h1, h2 => by
    cases h1
    cases h2
    show putP (upd H t (.tup [q.1, q.2])) as r t = some (.tup [q.1, q.2])
    rw [putP_off as r _ (List.nodup_cons.mp hn).1, upd_same]
  | _ :: as, _ :: r, H, hn, j + 1, t, q, h1, h2 => putP_at as r _ (List.nodup_cons.mp hn).2 j t q h1 h2
theorem vals_get : ∀ {xs : List V} {us : List Value} {j : Nat} {x : V}, Vals xs us → xs[j]? = some x → ∃ u, us[j]? = some u ∧ RelV x u
  | _, _, 0, _, .cons r _, h => by
    cases h
    exact ⟨_, rfl, r⟩
  | _, _, j + 1, _, .cons _ t, h => vals_get (j := j) t h
theorem vals_ref : ∀ as : List Addr, Vals (as.map V.ref) (as.map Value.ref)
  | [] => .nil
  | _ :: as => .cons rfl (vals_ref as)
def tLzs (K : PySem.W.Frag) (ta : TA) : TE := fun σ H Q => ta σ H fun vs H1 => ∃ a b xs ys, vs = [V.ref a, V.ref b] ∧ SqL K H1 a xs ∧ SqL K H1 b ys ∧ xs.length = ys.length ∧ xs.length ≤ 100000 ∧
  ∀ (H' : Hp) (p : Addr) (ts : List Addr), (∀ b o, H1 b = some o → H' b = some o) → H1 p = none → H' p = some (.lst (ts.map V.ref)) → ts.length = xs.length → (∀ (j : Nat) (t : Addr) (x y : V), ts[j]? = some t → xs[j]? = some x → ys[j]? = some y → H' t = some (.tup [x, y])) → Q (.ref p) H'
section
variable {X : Cx}
theorem laid {pins : List (Addr × Obj)} {σ : L2.St} {H : Hp} {s : Shared} {h' : Heap} {tk : Nat} {xs ys : List V} {us vs : List Value} {acc : Array Value} {c : Nat} {as : List Addr} {S : Addr} (I : Inv X pins σ H s) (rx : Vals xs us) (ry : Vals ys vs) (hxy : xs.length = ys.length) (hn : xs.length ≤ 100000)
    (hk : ∀ b o, s.heap.get? b = some o → h'.get? b = some o) (lS : s.heap.objs.size ≤ S) (hS : h'.get? S = some { cls := .type "list", dict := none, data := .seq acc c, slots := #[] }) (hl : as.length = xs.length) (hG : ZG S us.toArray vs.toArray h' as) (hacc : acc.toList = as.map Value.ref) :
    ∃ H' : Hp, (∀ b o, H b = some o → H' b = some o) ∧ H S = none ∧ H' S = some (.lst (as.map V.ref)) ∧ (∀ (j : Nat) (t : Addr) (x y : V), as[j]? = some t → xs[j]? = some x → ys[j]? = some y → H' t = some (.tup [x, y])) ∧ Inv X pins σ H' { s with heap := h', toks := tk } := by
  have hSn : S ∉ as := fun z => Nat.lt_irrefl _ (hG.above _ z)
  have nd : as.Nodup := List.Pairwise.imp (fun {a b} (h : a < b) => Nat.ne_of_lt h) hG.rise
  have new : ∀ t ∈ as, H t = none := fun t ht => I.hok.fresh (Nat.le_trans lS (Nat.le_of_lt (hG.above t ht)))
  have newS : H S = none := I.hok.fresh lS
  have atP := putP_at as (xs.zip ys) (upd H S (.lst (as.map V.ref))) nd
  have off : ∀ b, b ∉ as → b ≠ S → putP (upd H S (.lst (as.map V.ref))) as (xs.zip ys) b = H b := fun b h1 h2 => by rw [putP_off as _ _ h1, upd_ne h2]
  have low : ∀ b o, s.heap.get? b = some o → b ∉ as ∧ b ≠ S := fun b o e => ⟨fun z => absurd (Heap.lt_size e) (Nat.not_lt.mpr (Nat.le_trans lS (Nat.le_of_lt (hG.above b z)))), Nat.ne_of_lt (Nat.lt_of_lt_of_le (Heap.lt_size e) lS)⟩
  have kp : ∀ b u, H b = some u → (putP (upd H S (.lst (as.map V.ref))) as (xs.zip ys)) b = some u := fun b u e => by
    rw [off b (fun z => by rw [new b z] at e; cases e) (fun z => by rw [z, newS] at e; cases e)]
    exact e
  have eS : putP (upd H S (.lst (as.map V.ref))) as (xs.zip ys) S = some (.lst (as.map V.ref)) := by rw [putP_off as _ _ hSn, upd_same]
  have zq : ∀ {j : Nat} {x y : V}, xs[j]? = some x → ys[j]? = some y → (xs.zip ys)[j]? = some (x, y) := fun h1 h2 => by
    rw [List.getElem?_zip_eq_some]
    exact ⟨h1, h2⟩
  refine ⟨putP (upd H S (.lst (as.map V.ref))) as (xs.zip ys), kp, newS, eS, fun j t x y h1 h2 h3 => atP j t (x, y) h1 (zq h2 h3), ?_⟩
  refine I.call' (ch := []) rfl ⟨fun b o q _ _ _ => hk b o q, fun b o q _ _ _ => ⟨o.slots, hk b o q⟩, fun b o q n _ => ?_, fun b o q _ => ⟨o, hk b o q⟩, fun b xs q => kp b _ q, fun b o u q => kp b _ q, fun b ps q => ⟨#[], by rw [kp b _ q]; simp⟩⟩ (fun b u q => ?_) I.bare fun b z => by simp at z
  · obtain ⟨z1, z2⟩ := low b o q
    rw [off b z1 z2]
    exact n
  · by_cases hb : b ∈ as
    · obtain ⟨j, hj⟩ := List.mem_iff_getElem?.mp hb
      have hlt : j < as.length := by
        rcases Nat.lt_or_ge j as.length with z | z
        · exact z
        · rw [List.getElem?_eq_none z] at hj
          cases hj
      have hx : xs[j]? = some xs[j] := List.getElem?_eq_getElem (by omega)
      have hy : ys[j]? = some ys[j] := List.getElem?_eq_getElem (by omega)
      rw [atP j b _ hj (zq hx hy)] at q
      cases q
      obtain ⟨u, v, f1, f2, f3⟩ := hG.pairs j b hj
      obtain ⟨u2, g1, g2⟩ := vals_get rx hx
      obtain ⟨v2, g3, g4⟩ := vals_get ry hy
      have e1 : u2 = u := by
        have : us.toArray[j]? = us[j]? := by simp
        rw [this, g1] at f1
        exact Option.some.inj f1
      have e2 : v2 = v := by
        have : vs.toArray[j]? = vs[j]? := by simp
        rw [this, g3] at f2
        exact Option.some.inj f2
      subst e1
      subst e2
      exact ⟨by show 2 ≤ sizeLine; decide, [u2, v2], .cons g2 (.cons g4 .nil), ⟨_, f3, rfl, _, rfl⟩⟩
    · by_cases hb2 : b = S
      · rw [hb2] at q ⊢
        rw [eS] at q
        cases q
        refine ⟨by rw [List.length_map, sizeLine_eq]; omega, acc.toList, c, by rw [hacc]; exact vals_ref as, ?_⟩
        rw [Array.toArray_toList]
        exact hS
      · rw [off b hb hb2] at q
        exact (I.hok b u q).stay (fun d v _ y => hk d v y) (fun d y => kp d _ y) fun d xs y => kp d _ y
theorem callWith_tk {M : Model} {A : Around} {E : Value → Shared → Prop} {s : Shared} {env : Env} {pos : Pos} {T : String} {e : Expr} {rest : List Expr} {kws : List Keyword} {Q : Value → Shared → Prop}
    (h : wpAny M A (spliced (backTo pos (starEach (e :: rest) env))) (fun vs s1 => wpAny M A (evalAll ((backToKw pos (keywordEach kws env)).map (·.2))) (fun ks s2 => wpAny M A (call (.type T) vs (((backToKw pos (keywordEach kws env)).filterMap (·.1)).zip ks)) Q E s2) E s1) E s)
    (he : backTo pos (starEach (e :: rest) env) = (false, eval e env) :: backTo pos (starEach rest env) := by rfl) (hplain : (backTo pos (starEach (e :: rest) env)).any (·.1) = false := by rfl)
    (hall : (backToKw pos (keywordEach kws env)).all (·.1.isSome) = true := by rfl) (hkw : (backToKw pos (keywordEach kws env)).any (·.1.isNone) = false := by rfl) :
    wpAny M A (callWith pos (.type T) [] (backTo pos (starEach (e :: rest) env)) (backToKw pos (keywordEach kws env))) Q E s := by
  have h2 : wpAny M A (evalArgs (.type T) true (backTo pos (starEach (e :: rest) env)) (backToKw pos (keywordEach kws env))) (fun a s1 => wpAny M A (call (.type T) ([] ++ a.pos) a.kw) Q E s1) E s := by
    rw [he] at h ⊢
    exact PySem.evalArgs_kw hall h
  unfold callWith
  refine wpAny_bind (wpAny_holding (wpAny_mono h2 (fun a s1 g1 => wpAny_bind (wpAny_standAt ?_)) fun _ _ x => x))
  simp only [hplain, hkw, Bool.or_false]
  refine wpAny_bind (wpAny_pure ?_)
  exact wpAny_bind (wpAny_mono g1 (fun r s2 hr => wpAny_bind (wpAny_holding (wpAny_point (wpAny_pure hr)))) fun _ _ x => x)
/-- list(zip(a, b, strict=True)) -/
theorem pe_lzs {e1 e2 : Expr} {kws : List Keyword} {ta : TA} {p p2 pos pos2 : Pos} (hc : X.calm = true) (hgl : Gl X "list") (hml : X.mg "list" = none) (hvl : bootBuiltins "list" = some (.type "list")) (hgz : Gl X "zip") (hmz : X.mg "zip" = none)
    (ha : PA X [e1, e2] ta) (hk : PK X kws (tCons (tC (.bl true)) tNil)) (hks : (backToKw pos2 (keywordEach kws X.env)).filterMap (·.1) = [Str.ofString "strict"] := by rfl)
    (hs : starEach [.Call (.Name "zip" p2) [e1, e2] kws pos2] X.env = (false, eval (.Call (.Name "zip" p2) [e1, e2] kws pos2) X.env) :: starEach [] X.env := by rfl)
    (he : backTo pos2 (starEach [e1, e2] X.env) = (false, eval e1 X.env) :: backTo pos2 (starEach [e2] X.env) := by rfl) (hplain : (backTo pos2 (starEach [e1, e2] X.env)).any (·.1) = false := by rfl)
    (hall : (backToKw pos2 (keywordEach kws X.env)).all (·.1.isSome) = true := by rfl) (hkw : (backToKw pos2 (keywordEach kws X.env)).any (·.1.isNone) = false := by rfl) :
    PE X (.Call (.Name "list" p) [.Call (.Name "zip" p2) [e1, e2] kws pos2] [] pos) (tLzs X.K ta) := by
  refine ⟨fun pins s σ H Q I h => ?_⟩
  refine wpAny_Call_Name_kw (ld_blt I hgl hml hvl ?_)
  refine PyProof.Rows.callWith_type1 ?_ hs rfl
  rw [hs]
  show wpAny _ _ (spliced ((false, eval (.Call (.Name "zip" p2) [e1, e2] kws pos2) X.env) :: backTo pos (starEach [] X.env))) _ _ s
  refine Calls.spliced_cons ?_
  refine wpAny_Call_Name_kw (ld_blt I hgz hmz PyProof.Rows.boot_zip ?_)
  refine callWith_tk (thn (ha.run pos2 pins s σ H _ I h) fun us s1 ⟨vs, H1, I1, r1, a, b, xs, ys, ev, hqx, hqy, hxy, hn, q⟩ => ?_) he hplain hall hkw
  subst ev
  refine thn (hk.run pos2 pins s1 σ H1 (fun zs H2 => zs = [.bl true] ∧ H2 = H1) I1 ⟨rfl, rfl⟩) fun ws s2 ⟨zs, H2, I2, rz, ez, eH⟩ => ?_
  subst ez
  subst eH
  rw [hks]
  obtain ⟨u1, u2, rfl, ra, rb⟩ := vals2 r1
  obtain ⟨w1, rfl, rw1⟩ := vals1 rz
  cases (show u1 = Value.ref a from ra)
  cases (show u2 = Value.ref b from rb)
  cases (show w1 = Value.bool true from rw1)
  obtain ⟨its, rv, p1, hz1⟩ := I2.list hqx
  obtain ⟨its2, rv2, p2', hz2⟩ := I2.list hqy
  have la : a < s2.heap.objs.size := p1.lt
  have lb : b < s2.heap.objs.size := p2'.lt
  have lx := rv.length
  have ly := rv2.length
  refine call_zs p1.isList p2'.isList fun h5 hst h5s hk5 => ?_
  refine Calls.spliced_nil ?_
  have hk5' : ∀ c o, s2.heap.get? c = some o → c < s2.heap.objs.size := fun c o e => Heap.lt_size e
  refine z_list (s := { s2 with heap := h5 }) (xs := its.toArray) (ys := its2.toArray) (I2.ok.hd hc) (PySem.W.ktu_apart s2.heap.objs.size a b la lb) (by simp; omega) (by simp; rw [sizeLine_eq]; omega) hst (p1.isList.at fun o e => hk5 _ o e) (p2'.isList.at fun o e => hk5 _ o e) (by show _ < h5.objs.size; rw [h5s]; exact Nat.lt_succ_of_lt (Nat.lt_succ_self _)) fun h' tk acc c as hk' hS' hl hG hacc => ?_
  have kp : ∀ d o, s2.heap.get? d = some o → h'.get? d = some o := fun d o e => by
    have := Heap.lt_size e
    exact hk' d o (Nat.ne_of_lt (Nat.lt_of_lt_of_le this (Nat.le_add_right _ _))) (Nat.ne_of_lt (Nat.lt_of_lt_of_le this (Nat.le_add_right _ _))) (Nat.ne_of_lt this) (Nat.ne_of_lt (Nat.lt_of_lt_of_le this (Nat.le_add_right _ _))) (hk5 d o e)
  obtain ⟨H', k1, k2, k3, k4, J⟩ := laid (tk := tk) (S := h5.objs.size) I2 rv rv2 hxy hn kp (by rw [h5s]; exact Nat.le_add_right _ _) hS' (by rw [hl]; simp; omega) hG hacc
  exact ⟨.ref _, H', J, rfl, q H' _ as k1 k2 k3 (by rw [hl]; simp; omega) k4⟩
end
end Tlz
end

section
set_option Elab.async false
set_option linter.all false
set_option maxRecDepth 100000
set_option maxHeartbeats 400000
/-! xs[i::k] of a list. -/
namespace Tl
open PySem PySem.Spec PyProof.Rows L2 Evl
def stepV {α : Type} (xs : List α) (lo hi st : Option Int) : List α := (sliceRange (sliceBounds lo hi st xs.length).1 (sliceBounds lo hi st xs.length).2.1 (sliceBounds lo hi st xs.length).2.2).filterMap (xs[·]?)
theorem vals_gets {xs : List V} {us : List Value} (h : Vals xs us) : ∀ idx : List Nat, Vals (idx.filterMap (xs[·]?)) (idx.filterMap (us[·]?))
  | [] => .nil
  | i :: idx => by
    have ih := vals_gets h idx
    rcases Nat.lt_or_ge i xs.length with hi | hi
    · have hx : xs[i]? = some xs[i] := List.getElem?_eq_getElem hi
      obtain ⟨u, hu, ru⟩ := h.get hx
      rw [List.filterMap_cons_some hx, List.filterMap_cons_some hu]
      exact .cons ru ih
    · rw [List.filterMap_cons_none (List.getElem?_eq_none hi), List.filterMap_cons_none (List.getElem?_eq_none (by rw [← h.length]; exact hi))]
      exact ih
def tSlS (K : PySem.W.Frag) (te : TE) (tl th ts : TO) : TE := fun σ H Q => te σ H fun x H1 => tl σ H1 fun lo H2 => th σ H2 fun hi H3 => ts σ H3 fun st H4 => ∃ a xs, x = .ref a ∧ SqL K H4 a xs ∧ st ≠ some 0 ∧ (stepV xs lo hi st).length ≤ 100000 ∧ ∀ p, H4 p = none → Q (.ref p) (upd H4 p (.lst (stepV xs lo hi st)))
section
variable {X : Cx} {e es : Expr} {te : TE} {lo hi : Option Expr} {tl th ts : TO} {pos p2 : Pos}
theorem pe_slStep (he : PE X e te) (hl : PO X lo tl) (hu : PO X hi th) (hs : PO X (some es) ts) : PE X (.Subscript e (.Slice lo hi (some es) p2) pos) (tSlS X.K te tl th ts) := by
  refine ⟨fun pins s σ H Q I h => ?_⟩
  refine Subscript_ (thn (he.run pins s σ H _ I h) fun v s1 ⟨x, H1, I1, r1, q1⟩ => ?_)
  refine wpAny_Slice (thn (hl.run pins s1 σ H1 _ I1 q1) fun vl s2 ⟨l, H2, I2, pl, q2⟩ => thn (hu.run pins s2 σ H2 _ I2 q2) fun vu s3 ⟨u, H3, I3, pu, q3⟩ => ?_)
  refine thn (hs.run pins s3 σ H3 _ I3 q3) fun vs s4 ⟨st, H4, I4, ps, a, xs, ex, hx, h0, hz, q4⟩ => ?_
  subst ex
  cases r1
  have I5 : Inv X pins σ H4 { s4 with heap := s4.heap.push { cls := .type "slice", data := .fields #[vl, vu, vs] } } := I4.kept (t' := s4.toks) fun b ob q => Heap.get?_push_of_some _ q
  obtain ⟨its, r, ht, hz2⟩ := I5.list hx
  have hlen := r.length
  have hg : wpAny (model X.prog X.w) X.A (getItem (.ref a) (.ref s4.heap.objs.size)) (EP X pins σ Q) X.xe { s4 with heap := s4.heap.push { cls := .type "slice", data := .fields #[vl, vu, vs] } } := by
    refine wpAny_getItem_list_slice ht.isList (Heap.IsSliceOf.new ..) pl pu ps h0 ?_ (by rw [List.size_toArray] <;> omega)
    have e1 : slicePick its.toArray l u st = (stepV its l u st).toArray := by
      unfold slicePick stepV
      simp
    have e2 : stepV its l u st = (sliceRange (sliceBounds l u st xs.length).1 (sliceBounds l u st xs.length).2.1 (sliceBounds l u st xs.length).2.2).filterMap (its[·]?) := by
      unfold stepV
      rw [hlen]
    rw [e1, e2]
    refine ⟨.ref _, _, I5.laid (t' := s4.toks) (o := .lst (stepV xs l u st)) (fun b ob q => Heap.get?_push_of_some _ q) (Nat.le_refl _) ?_, rfl, q4 _ (I5.hok.fresh (Nat.le_refl _))⟩
    exact ⟨by rw [sizeLine_eq]; omega, _, 0, vals_gets r _, Heap.get?_push_size _ rfl⟩
  show wpAny (model X.prog X.w) X.A (subscriptTail e (.Slice lo hi (some es) p2) (.ref a) (.ref s4.heap.objs.size)) (EP X pins σ Q) X.xe { s4 with heap := s4.heap.push { cls := .type "slice", data := .fields #[vl, vu, vs] } }
  exact tail_any (ops := [.ref a, .ref s4.heap.objs.size]) ht.isList.typeIs slot_list_getitem.lookup hg (by with_unfolding_all rfl)
end
end Tl
end

section
set_option Elab.async false
set_option linter.all false
set_option maxRecDepth 100000
set_option maxHeartbeats 2000000
/-! Reading: maps. -/
namespace Tl
open PySem PySem.Spec PyProof.Rows L2 Evl
open Tar (By)
open Tlz (tLzs)
open C8 (Cal Met Mak pe_c pe_mk pe_mt pe_mt0 pe_gc fnScope_by)
section
variable {P : Program} {w : World} {K : PySem.W.Frag} {mg : Str → Option Value} {base : Heap} {a : Ad}
def mapS (k : Nat) : List Nat := (mapN k).flatMap fun n => [48 + n, 32]
def partsOf (k : Nat) : List Str := (mapN k).map (fun n => sS [48 + n]) ++ [("" : Str)]
def nsV (k : Nat) : List V := (mapN k).map vN
theorem occ_eq (b : Array UInt8) (c : UInt8) : Builtin.Bytes.occurrences b #[c] 0 b.size = (List.range b.size).filter fun i => decide (b[i]? = some c) := by
  have ex : ∀ i, i < b.size → (b.extract i (i + 1) == #[c]) = decide (b[i]? = some c) := fun i hi => by
    have e : b.extract i (i + 1) = #[b[i]] := by
      apply Array.ext
      · simp; omega
      · intro j h1 h2
        have : j = 0 := by simp at h2; exact h2
        subst this
        simp
    rw [e, Array.getElem?_eq_getElem hi]
    by_cases h : b[i] = c
    · rw [h, decide_eq_true rfl]; exact beq_self_eq_true _
    · rw [decide_eq_false (fun z => h (Option.some.inj z))]
      exact beq_eq_false_iff_ne.mpr fun z => h (by simpa using z)
  have key : ∀ n, n ≤ b.size → ((((List.range n).map fun i => i + 0)).foldl (fun (acc : List Nat × Nat) (i : Nat) => if (decide (i ≥ acc.2) && b.extract i (i + #[c].size) == #[c]) = true then (i :: acc.1, i + #[c].size) else acc) ([], 0)).1.reverse = (List.range n).filter (fun i => decide (b[i]? = some c)) ∧
      ((((List.range n).map fun i => i + 0)).foldl (fun (acc : List Nat × Nat) (i : Nat) => if (decide (i ≥ acc.2) && b.extract i (i + #[c].size) == #[c]) = true then (i :: acc.1, i + #[c].size) else acc) ([], 0)).2 ≤ n := fun n => by
    induction n with
    | zero => intro _; exact ⟨rfl, Nat.le_refl _⟩
    | succ n ih =>
      intro hn
      obtain ⟨h1, h2⟩ := ih (by omega)
      rw [List.range_succ, List.map_append, List.foldl_append, List.filter_append]
      generalize (((List.range n).map fun i => i + 0)).foldl (fun (acc : List Nat × Nat) (i : Nat) => if (decide (i ≥ acc.2) && b.extract i (i + #[c].size) == #[c]) = true then (i :: acc.1, i + #[c].size) else acc) ([], 0) = acc at h1 h2
      have e : (b.extract n (n + #[c].size) == #[c]) = decide (b[n]? = some c) := ex n (by omega)
      show (if (decide (n + 0 ≥ acc.2) && b.extract (n + 0) (n + 0 + #[c].size) == #[c]) = true then ((n + 0) :: acc.1, n + 0 + #[c].size) else acc).1.reverse = _ ∧ (if (decide (n + 0 ≥ acc.2) && b.extract (n + 0) (n + 0 + #[c].size) == #[c]) = true then ((n + 0) :: acc.1, n + 0 + #[c].size) else acc).2 ≤ n + 1
      rw [Nat.add_zero, e, decide_eq_true (show n ≥ acc.2 from h2), Bool.true_and]
      by_cases h : b[n]? = some c
      · rw [decide_eq_true h, if_pos rfl]
        refine ⟨?_, Nat.le_refl _⟩
        rw [List.reverse_cons, h1]
        congr 1
        simp [h]
      · rw [decide_eq_false h, if_neg Bool.false_ne_true]
        refine ⟨?_, by omega⟩
        rw [h1]
        simp [h]
  have k := (key b.size (Nat.le_refl _)).1
  unfold Builtin.Bytes.occurrences
  have e : b.size + 1 - (0 + #[c].size) = b.size := by simp
  rw [e]
  exact k
theorem occ_txt {t : List Nat} {z : Nat} {c : UInt8} (hc : c ≠ 0) : Builtin.Bytes.occurrences (Tar.enc t ++ Tar.zs z).toArray #[c] 0 (Tar.enc t ++ Tar.zs z).toArray.size = (List.range t.length).filter fun i => decide ((Tar.enc t)[i]? = some c) := by
  rw [occ_eq]
  have hs : (Tar.enc t ++ Tar.zs z).toArray.size = t.length + z := by rw [List.size_toArray, List.length_append, Tar.enc_length, Tar.zs_length]
  rw [hs, List.range_add, List.filter_append]
  have h2 : (((List.range z).map fun x => t.length + x).filter fun i => decide ((Tar.enc t ++ Tar.zs z).toArray[i]? = some c)) = [] := by
    rw [List.filter_eq_nil_iff]
    intro i hi
    obtain ⟨j, hj, rfl⟩ := List.mem_map.mp hi
    have hj' := List.mem_range.mp hj
    rw [List.getElem?_toArray, List.getElem?_append_right (by rw [Tar.enc_length]; omega), Tar.enc_length]
    unfold Tar.zs
    rw [List.getElem?_replicate, if_pos (by omega)]
    simp
    exact fun z => hc z.symm
  rw [h2, List.append_nil]
  refine List.filter_congr fun i hi => ?_
  have hi' := List.mem_range.mp hi
  rw [List.getElem?_toArray, List.getElem?_append_left (by rw [Tar.enc_length]; exact hi')]
def repL (k : Nat) : List Nat := (List.range (mapT k).length).filter fun i => decide ((Tar.enc (mapT k))[i]? = some 10)
theorem repL_eq {k : Nat} (h : k ≤ 2) : repL k = (List.range (k + k + 2)).map fun i => 2 * i + 1 := by
  match k, h with
  | 0, _ => decide +kernel
  | 1, _ => decide +kernel
  | 2, _ => decide +kernel
def btw (l : By) : Nat → List Nat → List By
  | last, [] => [l.drop last]
  | last, p :: ps => (l.drop last).take (p - last) :: btw l (p + 1) ps
theorem between_fold (l : By) : ∀ (ps : List Nat) (acc : Array (Array UInt8)) (last : Nat), (ps.foldl (fun (x : Array (Array UInt8) × Nat) p => (x.1.push (l.toArray.extract x.2 p), p + 1)) (acc, last)).1.push (l.toArray.extract (ps.foldl (fun (x : Array (Array UInt8) × Nat) p => (x.1.push (l.toArray.extract x.2 p), p + 1)) (acc, last)).2 l.toArray.size) = acc ++ ((btw l last ps).map List.toArray).toArray
  | [], acc, last => by
    show acc.push (l.toArray.extract last l.toArray.size) = acc ++ ([(l.drop last).toArray] : List (Array UInt8)).toArray
    have e : l.toArray.extract last l.toArray.size = (l.drop last).toArray := by
      rw [List.extract_toArray]
      congr 1
      unfold List.extract
      rw [List.take_of_length_le (by simp)]
    rw [e]
    simp
  | p :: ps, acc, last => by
    rw [List.foldl_cons]
    have e : l.toArray.extract last p = ((l.drop last).take (p - last)).toArray := by
      rw [List.extract_toArray]
    rw [e]
    have ih := between_fold l ps (acc.push ((l.drop last).take (p - last)).toArray) (p + 1)
    rw [ih]
    show acc.push _ ++ _ = acc ++ (((l.drop last).take (p - last)).toArray :: (btw l (p + 1) ps).map List.toArray).toArray
    apply Array.ext'
    simp
theorem between_eq (l : By) (ps : List Nat) : Builtin.Bytes.between l.toArray 1 ps = (btw l 0 ps).map List.toArray := by
  have h := between_fold l ps #[] 0
  unfold Builtin.Bytes.between
  have e : (ps.foldl (fun (x : Array (Array UInt8) × Nat) p => (x.1.push (l.toArray.extract x.2 p), p + 1)) (#[], 0)).1.push (l.toArray.extract (ps.foldl (fun (x : Array (Array UInt8) × Nat) p => (x.1.push (l.toArray.extract x.2 p), p + 1)) (#[], 0)).2 l.toArray.size) = ((btw l 0 ps).map List.toArray).toArray := h.trans (by simp)
  exact (congrArg Array.toList e).trans (by simp)
theorem joinS_fold (c : UInt8) : ∀ (l : List By) (n : Nat) (out : Array UInt8), ((l.map List.toArray).zipIdx (n + 1)).foldl (fun out (p : Array UInt8 × Nat) => (if p.2 > 0 then out ++ (#[c] : Array UInt8) else out) ++ p.1) out = out ++ (l.flatMap fun q => c :: q).toArray
  | [], _, out => by simp
  | b :: l, n, out => by
    rw [List.map_cons, List.zipIdx_cons, List.foldl_cons]
    show ((l.map List.toArray).zipIdx (n + 1 + 1)).foldl _ ((if n + 1 > 0 then out ++ (#[c] : Array UInt8) else out) ++ b.toArray) = _
    rw [if_pos (Nat.succ_pos n), joinS_fold c l (n + 1)]
    apply Array.ext'
    simp
theorem joinS_eq (c : UInt8) (p : By) (l : List By) : Builtin.Bytes.joined #[c] ((p :: l).map List.toArray) = (p ++ l.flatMap fun q => c :: q).toArray := by
  have h := joinS_fold c l 0 p.toArray
  unfold Builtin.Bytes.joined
  rw [List.map_cons, List.zipIdx_cons, List.foldl_cons]
  have e : ((if (0 : Nat) > 0 then (#[] : Array UInt8) ++ #[c] else #[]) ++ p.toArray) = p.toArray := by simp
  show ((l.map List.toArray).zipIdx (0 + 1)).foldl _ ((if (0 : Nat) > 0 then (#[] : Array UInt8) ++ #[c] else #[]) ++ p.toArray) = _
  rw [e]
  refine h.trans ?_
  apply Array.ext'
  simp
theorem btw_ok {k : Nat} (h : k ≤ 2) : ∃ p l, btw (mapB k) 0 ((List.range (k + k + 2)).map fun i => 2 * i + 1) = p :: l ∧ (p ++ l.flatMap fun q => (32 : UInt8) :: q) = Tar.enc (mapS k) ++ Tar.zs (512 - (mapS k).length) := by
  match k, h with
  | 0, _ => exact ⟨_, _, rfl, by decide +kernel⟩
  | 1, _ => exact ⟨_, _, rfl, by decide +kernel⟩
  | 2, _ => exact ⟨_, _, rfl, by decide +kernel⟩
theorem rep_ok {k : Nat} (h : k ≤ 2) : Builtin.Bytes.joined #[32] (Builtin.Bytes.between (mapB k).toArray 1 ((List.range (k + k + 2)).map fun i => 2 * i + 1)) = (Tar.enc (mapS k) ++ Tar.zs (512 - (mapS k).length)).toArray := by
  obtain ⟨p, l, e1, e2⟩ := btw_ok h
  rw [between_eq, e1, joinS_eq, e2]
theorem split_ok {k : Nat} (h : k ≤ 2) : Txt.split (sS (mapS k)) " " = partsOf k := by
  match k, h with
  | 0, _ => decide +kernel
  | 1, _ => decide +kernel
  | 2, _ => decide +kernel
end
end Tl
end

section
set_option Elab.async false
set_option linter.all false
set_option maxRecDepth 100000
set_option maxHeartbeats 2000000
/-! Reading: whole_numbers, spans_of. -/
namespace Tl
open PySem PySem.Spec PyProof.Rows L2 Evl
open Tar (By)
open Tlz (tLzs)
open C8 (Cal Met Mak pe_c pe_mk pe_mt pe_mt0 pe_gc fnScope_by)
section
variable {P : Program} {w : World} {K : PySem.W.Frag} {mg : Str → Option Value} {base : Heap} {a : Ad}
theorem mapS_facts {k : Nat} (h : k ≤ 2) : (mapS k).length ≤ 12 ∧ (mapS k).length = (mapT k).length ∧ mapS k ≠ [] ∧ ((mapS k).all fun c => decide (32 ≤ c) && decide (c < 127)) = true := by
  match k, h with
  | 0, _ => decide +kernel
  | 1, _ => decide +kernel
  | 2, _ => decide +kernel
theorem mapS_Pr {k : Nat} (h : k ≤ 2) : Pr (mapS k) := fun c hc => by
  have := List.all_eq_true.mp (mapS_facts h).2.2.2 c hc
  simpa using this
theorem ev_rep {σ : L2.St} {H : Hp} {ta tb tc : TE} {k : Nat} (hk : k ≤ 2) (ha : Ev ta σ H (vB (mapB k))) (hb : Ev tb σ H (.byt #[10])) (hc : Ev tc σ H (.byt #[32])) :
    Ev (tBB (fun x xs H Q => ∃ b o n, x = V.byt b ∧ xs = [V.byt o, V.byt n] ∧ o.isEmpty = false ∧ (Builtin.Bytes.occurrences b o 0 b.size).isEmpty = false ∧ Builtin.Bytes.tooLong (b.size + (Builtin.Bytes.occurrences b o 0 b.size).length * n.size) = false ∧ (repB b o n).size ≤ sizeLine ∧ Q (V.byt (repB b o n)) H) ta (tCons tb (tCons tc tNil))) σ H (vB (Tar.enc (mapS k) ++ Tar.zs (512 - (mapS k).length))) := by
  have ho : Builtin.Bytes.occurrences (mapB k).toArray #[10] 0 (mapB k).toArray.size = (List.range (k + k + 2)).map fun i => 2 * i + 1 := by
    have h1 := occ_txt (t := mapT k) (z := (512 - (Tar.enc (mapT k)).length % 512) % 512) (c := 10) (by decide)
    have h2 := repL_eq hk
    unfold repL at h2
    rw [h2] at h1
    exact h1
  have hr : repB (mapB k).toArray #[10] #[32] = (Tar.enc (mapS k) ++ Tar.zs (512 - (mapS k).length)).toArray := by
    unfold repB
    rw [ho]
    exact rep_ok hk
  have hm := mapB_length hk
  have hs := (mapS_facts hk).1
  refine ev_bb ha (ea_cons hb (ea_cons hc ea_nil)) fun H1 _ Q q => ⟨_, _, _, rfl, rfl, rfl, ?_, ?_, ?_, ?_⟩
  · rw [ho]
    cases e : ((List.range (k + k + 2)).map fun i => 2 * i + 1) with
    | nil =>
      have e2 := congrArg List.length e
      rw [List.length_map, List.length_range] at e2
      cases e2
    | cons x r => rfl
  · rw [ho]
    unfold Builtin.Bytes.tooLong
    rw [szB, hm, List.length_map, List.length_range]
    exact decide_eq_false (by rw [sizeLine_eq, show (#[32] : Array UInt8).size = 1 from rfl]; omega)
  · rw [hr, szB, List.length_append, Tar.enc_length, Tar.zs_length, sizeLine_eq]
    omega
  · rw [hr]
    exact q H1 (Ex.refl H1)
theorem parts_facts {k : Nat} (h : k ≤ 2) : atI ((partsOf k).map V.str) (-1) = some (.str "") ∧ cutV ((partsOf k).map V.str) none (some (-1)) = (mapN k).map (fun n => vS [48 + n]) ∧ (mapN k).length ≤ 6 ∧ (∀ n ∈ mapN k, n ≤ 9) := by
  match k, h with
  | 0, _ => exact ⟨rfl, rfl, by decide, by decide⟩
  | 1, _ => exact ⟨rfl, rfl, by decide, by decide⟩
  | 2, _ => exact ⟨rfl, rfl, by decide, by decide⟩
theorem dig_d : ∀ n, n < 10 → Txt.isdigit (sS [48 + n]) = true := by decide +kernel
theorem dig_i : ∀ n, n < 10 → intText? (sS [48 + n]) = some ((n : Nat) : Int) := by decide +kernel
abbrev nm_whole_numbers : List Str := ["block", "text", "parts", "part"]
theorem sc_whole_numbers : FnScope nm_whole_numbers ["block"] (defScope s_whole_numbers) := fnScope_by (by decide +kernel)
abbrev rWh : List V → Hp → (V → Hp → Prop) → Prop := fun vs _ Pz => ∃ k, vs = [vB (mapB k)] ∧ k ≤ 2 ∧ ∀ p H', H' p = some (.lst (nsV k)) → Pz (.ref p) H'
theorem ok_whole_numbers (T : Txt K mg a) (F : DB K mg "whole_numbers" s_whole_numbers ["block"]) (c_text_of : Cal P w K mg base 1 "text_of" (spV 1 rTx) []) : Cal P w K mg base 2 "whole_numbers" (spP 1 rWh) [] := by
  refine cal_of F sc_whole_numbers (fun _ _ _ _ h => h.1) fun f cdv A outer s H vs Q E hr h => ⟨_, (pss_cons (ps_set (i := 1) sc_whole_numbers.nd rfl (Or.inl rfl) (C8.pe_c c_text_of hr (by decide) rfl (pa_cons (pe_bb rep_slot rep_type mt_breplace (pv 0) (pa_cons pe_byt (pa_cons pe_byt pa_nil))) pa_nil)))
    (pss_cons (ps_if (PW.pt (pw_or (pt_cmpR op_isN (pv 1) pe_non (nomark _)) (pw_or1 (pt_cmpR op_eq (pv 1) pe_str (nomark _))))) (pss_one (ps_ret pe_non)) pss_nil)
    (pss_cons (ps_set (i := 2) sc_whole_numbers.nd rfl (Or.inl rfl) (pe_split (pv 1) pe_str))
    (pss_cons (ps_if (PW.pt (pw_or (pt_cmpR op_ne (pe_ix ix_seq (pv 2) (pe_un un_neg pe_int) (fun _ _ => rfl)) pe_str (nomark _)) (pw_or1 (pt_not (pt_val (pe_callB (cr_all rfl) (by rfl) T.b_all (by decide +kernel) (pa_cons (pe_lc (own := [("part", 3)]) (g := (gName 3)) (tt := tYes) rfl sc_whole_numbers.nd (pi_list (pe_slice sl_list (pv 2) po_none (po_some (pe_un un_neg pe_int)))) (blkOk_by (own := [("part", 3)]) (N := nm_whole_numbers) (sc := defScope s_whole_numbers) (by decide +kernel)) (fun _ _ _ _ _ => (pg_name (i := 3) sc_whole_numbers.nd rfl (Or.inl rfl))) (fun _ _ _ _ _ => pts_nil) (fun _ _ _ _ _ => (pe_and (pe_m0 PySem.F.slot_str_isdigit PySem.F.type_str_isdigit mt_isdigit (pv 3)) (pe_one (pe_cmpR op_lt (pe_callB (lenK (K := K) rfl) (by rfl) T.b_len PySem.boot_len (pa_cons (pv 3) pa_nil)) pe_int (nomark _)))))) pa_nil))))))) (pss_one (ps_ret pe_non)) pss_nil)
    (pss_one (ps_ret (pe_lc (own := [("part", 3)]) (g := (gName 3)) (tt := tYes) rfl sc_whole_numbers.nd (pi_list (pe_slice sl_list (pv 2) po_none (po_some (pe_un un_neg pe_int)))) (blkOk_by (own := [("part", 3)]) (N := nm_whole_numbers) (sc := defScope s_whole_numbers) (by decide +kernel)) (fun _ _ _ _ _ => (pg_name (i := 3) sc_whole_numbers.nd rfl (Or.inl rfl))) (fun _ _ _ _ _ => pts_nil) (fun _ _ _ _ _ => (pe_callTy call_int_str (by rfl) T.b_int (by decide +kernel) (pa_cons (pv 3) pa_nil)))))))))), ?_⟩
  obtain ⟨_, _, ⟨k, rfl, hk, hP⟩, q⟩ := h
  obtain ⟨m1, m2, m3, m4⟩ := mapS_facts hk
  obtain ⟨p1, p2, p3, p4⟩ := parts_facts hk
  have m5 : decide (vS (mapS k) = .str "") = false := by
    match k, hk with
    | 0, _ => decide +kernel
    | 1, _ => decide +kernel
    | 2, _ => decide +kernel
  have neg1 : ∀ {σ : L2.St} {H : Hp}, Ev (tUn (rU fun i => V.int (-i)) (tC (V.int 1))) σ H (.int (-1)) := ev_un ev_c fun H1 _ Q q => ⟨1, rfl, q H1 (Ex.refl H1)⟩
  have sl : ∀ {σ : L2.St} {H : Hp} {l : Addr}, σ[2]? = some (some (.ref l)) → H l = some (.lst ((partsOf k).map V.str)) → EvL (tSl (rSlL K) (tVar 2) tNoPart (tPart (tUn (rU fun i => V.int (-i)) (tC (V.int 1))))) σ H ((mapN k).map fun n => vS [48 + n]) := fun hs hl => by
    have h := el_sl (K := K) (ev_var hs) eo_none (eo_some neg1) (sq_of hl)
    rwa [p2] at h
  refine q_asg (v := vS (mapS k)) (ev_callV (ea_cons (ev_rep hk (ev_var rfl) ev_c ev_c) ea_nil) rfl fun _ _ => ⟨mapS k, 512 - (mapS k).length, rfl, mapS_Pr hk, by omega, rfl⟩) fun H1 e1 => ?_
  refine q_when (et_or (a := false) (b := false) (et_is (et_isN (x := vS (mapS k)) (ev_var rfl)) (decide_eq_false fun z => nomatch z)) fun _ => et_is (et_eq (ev_var rfl) ev_c rfl) m5) (fun h => nomatch h) fun _ H2 e2 => ?_
  refine q_asgL (xs := (partsOf k).map V.str) (el_m1 (ev_var rfl) ev_c fun H3 _ Q q => ⟨_, _, rfl, rfl, rfl, by rw [sS_len, sizeLine_eq]; omega, by rw [split_ok hk]; exact q⟩) fun l H3 hl0 e3 hl => ?_
  refine q_when (et_or (a := false) (b := false) (et_is (et_ne (x := .str "") (y := .str "") (ev_op (ev_var rfl) neg1 (rv_ixl (sq_of hl) p1)) ev_c rfl) (by simp)) fun _ => et_nT (et_B (ev_allX (ei_listN (sl rfl hl)) (by rw [List.length_map]; omega) (fun x => rfl) fun x H4 hx e4 => ?_))) (fun h => nomatch h) fun _ H4 e4 => ?_
  · obtain ⟨n, hn, rfl⟩ := List.mem_map.mp hx
    have h9 := p4 n hn
    exact ev_is (ev_andV (a := true) (b := true) (ev_is (ev_m0 (z := .bl (Txt.isdigit (sS [48 + n]))) (ev_var rfl) fun H5 _ Q q => ⟨_, rfl, rfl, trivial, q H5 (Ex.refl H5)⟩) (by rw [dig_d n (by omega)])) fun _ => ev_is (ev_lt (ev_lenS (ev_var rfl) (by rw [sS_len]; show 1 ≤ 100000; decide)) ev_c) (by rw [sS_len]; rfl)) rfl
  · have hl4 := e4 _ _ hl
    have hL : EvL (tLc (iList K (tSl (rSlL K) (tVar 2) tNoPart (tPart (tUn (rU fun i => V.int (-i)) (tC (V.int 1)))))) (gName 3) tYes (tCB (fun xs H Q => ∃ a n, xs = [V.str a] ∧ intText? a = some n ∧ a.length ≤ 640 ∧ Q (V.int n) H) (tCons (tVar 3) tNil)) [3]) (((L2.start nm_whole_numbers [vB (mapB k)]).set 1 (some (vS (mapS k)))).set 2 (some (.ref l))) H4 (nsV k) := by
      have h := el_lc (te := tCB (fun xs H Q => ∃ a n, xs = [V.str a] ∧ intText? a = some n ∧ a.length ≤ 640 ∧ Q (V.int n) H) (tCons (tVar 3) tNil)) (σ := ((L2.start nm_whole_numbers [vB (mapB k)]).set 1 (some (vS (mapS k)))).set 2 (some (.ref l))) (H := H4) (vs := [3]) (j := 3) (fun i => ((mapN k)[i]?).elim V.non vN) (ei_listN (K := K) (sl rfl hl4)) (by rw [List.length_map]; omega) ex_at (fun x => rfl) fun i x H5 H6 hi e hy => by
        obtain ⟨rfl, hy⟩ := hy
        rw [List.getElem?_map] at hy
        obtain ⟨n, hn, rfl⟩ := Option.map_eq_some_iff.mp hy
        refine ev_cb (ea_cons (ev_var rfl) ea_nil) fun H7 _ Q q => ⟨_, _, rfl, dig_i n (by have := p4 n (List.mem_of_getElem? hn); omega), by rw [sS_len]; show 1 ≤ 640; decide, ?_⟩
        rw [hn] at q
        exact q H7 (Ex.refl H7)
      rw [List.length_map, map_range (xs := mapN k) (g := vN) fun i x hx => by rw [hx]; rfl] at h
      exact h
    refine s_retP (EvL.p hL) fun v H5 e5 hv => ?_
    obtain ⟨p, rfl, hp⟩ := hv
    exact q _ H5 ((((e1.trans e2).trans e3).trans e4).trans e5) (hP p H5 hp)
theorem no0 {i : Int} (h : i ≠ 0 := by decide) : some i ≠ some 0 := fun z => h (Option.some.inj z)
theorem cmul {k : Nat} (h : k ≤ 2) : CMulW 2 (k : Int) := by
  match k, h with
  | 0, _ => show _ < _; decide +kernel
  | 1, _ => show _ < _; decide +kernel
  | 2, _ => show _ < _; decide +kernel
theorem el_slS {σ : L2.St} {H : Hp} {te : TE} {tl th ts : TO} {p : Addr} {xs : List V} {lo hi st : Option Int} (h : Ev te σ H (.ref p)) (h1 : EvO tl σ H lo) (h2 : EvO th σ H hi) (h3 : EvO ts σ H st) (hs : SqL K H p xs) (h0 : st ≠ some 0) (hz : (stepV xs lo hi st).length ≤ 100000) : EvL (tSlS K te tl th ts) σ H (stepV xs lo hi st) := fun H1 e Q q =>
  h H1 e _ fun H2 e2 => h1 H2 (e.trans e2) _ fun H3 e3 => h2 H3 ((e.trans e2).trans e3) _ fun H4 e4 => h3 H4 (((e.trans e2).trans e3).trans e4) _ fun H5 e5 => ⟨p, xs, rfl, ex_l ((((e.trans e2).trans e3).trans e4).trans e5) hs, h0, hz, fun q' hq => q q' _ (fresh_back (((e2.trans e3).trans e4).trans e5) hq) ((((e2.trans e3).trans e4).trans e5).trans (Ex.new hq)) upd_same⟩
theorem step_facts {k : Nat} (h : k ≤ 2) : stepV (nsV k) (some 2) none (some 2) = (spnI k).map (fun s => V.int s.1) ∧ stepV (nsV k) (some 3) none (some 2) = (spnI k).map (fun s => V.int s.2) ∧ (nsV k).length = 2 + 2 * k ∧ atI (nsV k) 1 = some (vN k) ∧ atI (nsV k) 0 = some (vN 9) ∧ spanB (-1) (spnI k) = true ∧ spEnd (-1) (spnI k) ≤ 9 ∧ (spnI k).length = k ∧ ((spnI k).map (·.2)).sum = (((if k = 0 then 0 else k + 1 : Nat)) : Int) := by
  match k, h with
  | 0, _ => exact ⟨rfl, rfl, rfl, rfl, rfl, rfl, by decide, rfl, rfl⟩
  | 1, _ => exact ⟨rfl, rfl, rfl, rfl, rfl, rfl, by decide, rfl, rfl⟩
  | 2, _ => exact ⟨rfl, rfl, rfl, rfl, rfl, rfl, by decide, rfl, rfl⟩
abbrev nm_spans_of : List Str := ["block", "many", "numbers", "size", "spans", "offset", "length"]
theorem sc_spans_of : FnScope nm_spans_of ["block", "many"] (defScope s_spans_of) := fnScope_by (by decide +kernel)
theorem ok_spans_of (T : Txt K mg a) (F : DB K mg "spans_of" s_spans_of ["block", "many"]) (c_whole_numbers : Cal P w K mg base 2 "whole_numbers" (spP 1 rWh) []) (c_are_spans : Cal P w K mg base 1 "are_spans" (spV 2 rSpans) []) (c_map_block : Cal P w K mg base 2 "map_block" (spV 2 rMap) []) : Cal P w K mg base 3 "spans_of" (spP 2 (rSpn a)) [] := by
  refine cal_of F sc_spans_of (fun _ _ _ _ h => h.1) fun f cdv A outer s H vs Q E hr h => ⟨_, (pss_cons (ps_set (i := 2) sc_spans_of.nd rfl (Or.inl rfl) (C8.pe_c c_whole_numbers hr (by decide) rfl (pa_cons (pv 0) pa_nil)))
    (pss_cons (ps_if (PW.pt (pw_or (pt_cmpR op_isN (pv 2) pe_non (nomark _)) (pw_or (pt_cmpR op_lt (pe_callB call_len (by rfl) T.b_len PySem.boot_len (pa_cons (pv 2) pa_nil)) pe_int (nomark _)) (pw_or1 (pt_cmpR op_ne (pe_callB call_len (by rfl) T.b_len PySem.boot_len (pa_cons (pv 2) pa_nil)) (pe_op op_add pe_int (pe_op op_mulW pe_int (pe_ix ix_seq (pv 2) pe_int (fun _ _ => rfl)))) (nomark _)))))) (pss_one (ps_ret pe_non)) pss_nil)
    (pss_cons (ps_par (i := 3) (j := 4) (by rfl) sc_spans_of.nd rfl rfl (by decide) rfl rfl (pa_cons (pe_ix ix_seq (pv 2) pe_int (fun _ _ => rfl)) (pa_cons (Tlz.pe_lzs rfl (by rfl) T.b_list rfl (by rfl) T.b_zip (pa_cons (pe_slStep (pv 2) (po_some pe_int) po_none (po_some pe_int)) (pa_cons (pe_slStep (pv 2) (po_some pe_int) po_none (po_some pe_int)) pa_nil)) (pk_cons pe_bl pk_nil)) pa_nil)) (by rfl))
    (pss_cons (ps_if (PW.pt (pw_or (pt_cmpR op_gt (pv 3) (pe_gc rfl T.g_MOST_DATA) (nomark _)) (pw_or (pt_not (pt_val (C8.pe_c c_are_spans hr (by decide) rfl (pa_cons (pv 3) (pa_cons (pv 4) pa_nil))))) (pw_or1 (pt_cmpR op_ne (pe_callB (cr_sum rfl) (by rfl) T.b_sum (by decide +kernel) (pa_cons (pe_lc (own := [("offset", 5), ("length", 6)]) (g := (gTup K 2 (gCons (gName 5) (gCons (gName 6) gNil)))) (tt := tYes) (te := tVar 6) rfl sc_spans_of.nd (pi_list (pv 4)) (blkOk_by (own := [("offset", 5), ("length", 6)]) (N := nm_spans_of) (sc := defScope s_spans_of) (by decide +kernel)) (fun _ _ _ _ _ => (pg_tup rfl (pgs_cons (pg_name (i := 5) sc_spans_of.nd rfl (Or.inl rfl)) (pgs_cons (pg_name (i := 6) sc_spans_of.nd rfl (Or.inl rfl)) pgs_nil)))) (fun _ _ _ _ _ => pts_nil) (fun _ _ _ _ _ => (pv 6))) pa_nil)) (pv 1) (nomark _)))))) (pss_one (ps_ret pe_non)) pss_nil)
    (pss_one (ps_ret (pe_ifExp (pt_cmpR op_eq (C8.pe_c c_map_block hr (by decide) rfl (pa_cons (pv 3) (pa_cons (pv 4) pa_nil))) (pv 0) (nomark _)) (pe_tup (pa_cons (pv 3) (pa_cons (pv 4) pa_nil))) pe_non))))))), ?_⟩
  obtain ⟨_, _, ⟨k, n, rfl, hk, hn, hP⟩, q⟩ := h
  obtain ⟨f1, f2, f3, f4, f5, f6, f7, f8, f9⟩ := step_facts hk
  refine q_asgP (P := fun v H' => ∃ p, v = .ref p ∧ H' p = some (.lst (nsV k))) (ep_call (ea_p (ea_cons (ev_var rfl) ea_nil)) fun vs H1 e1 hvs => ?_) fun v H1 e1 hv => ?_
  · subst hvs
    exact ⟨rfl, k, rfl, hk, fun p H' h => ⟨p, rfl, h⟩⟩
  obtain ⟨np, rfl, hnp⟩ := hv
  refine q_when (et_or (a := false) (b := false) (et_is (et_isN (x := .ref np) (ev_var rfl)) (decide_eq_false fun z => nomatch z)) fun _ => et_or (a := false) (b := false) (et_is (et_I (ev_lenL (ev_var rfl) (sq_of hnp)) ev_c) (decide_eq_false (by rw [f3]; omega))) fun _ => et_is (et_ne (x := .int ((nsV k).length : Int)) (y := .int (2 + 2 * (k : Int))) (ev_lenL (ev_var rfl) (sq_of hnp)) (ev_I (g := fun i j => i + j) ev_c (ev_IC (g := fun i j => i * j) ev_c (ev_op (ev_var rfl) ev_c (rv_ixl (sq_of hnp) f4)) (cmul hk))) rfl) (by rw [f3]; simp)) (fun h => nomatch h) fun _ H2 e2 => ?_
  have hn2 := e2 _ _ hnp
  refine q_par (Pa := fun x _ => x = vN 9) (Pb := fun _ _ y H' => ∃ l qs, y = .ref l ∧ H' l = some (.lst qs) ∧ Paired (SpAt H') qs (spnI k)) (ev_p (ev_op (ev_var rfl) ev_c (rv_ixl (sq_of hn2) f5))) (fun x H3 e3 _ => ?_) fun x y H3 H4 e3 e4 hx hy => ?_
  · have hn3 := e3 _ _ hn2
    have hA : EvAP (tCons (tSlS K (tVar 2) (tPart (tC (.int 2))) tNoPart (tPart (tC (.int 2)))) (tCons (tSlS K (tVar 2) (tPart (tC (.int 3))) tNoPart (tPart (tC (.int 2)))) tNil)) ((L2.start nm_spans_of [vB (mapB k), vN n]).set 2 (some (.ref np))) H3 (fun vs H' => ∃ p1 p2, vs = [.ref p1, .ref p2] ∧ H' p1 = some (.lst (stepV (nsV k) (some 2) none (some 2))) ∧ H' p2 = some (.lst (stepV (nsV k) (some 3) none (some 2)))) := by
      refine eap_cons (EvL.p (el_slS (K := K) (ev_var (i := 2) rfl) (eo_some ev_c) eo_none (eo_some ev_c) (sq_of hn3) no0 (by rw [f1, List.length_map, f8]; omega))) fun x H5 e5 hx => ?_
      obtain ⟨p1, rfl, h1⟩ := hx
      refine eap_cons (EvL.p (el_slS (K := K) (ev_var (i := 2) rfl) (eo_some ev_c) eo_none (eo_some ev_c) (sq_of (e5 _ _ hn3)) no0 (by rw [f2, List.length_map, f8]; omega))) fun x H6 e6 hx => ?_
      obtain ⟨p2, rfl, h2⟩ := hx
      exact eap_nil fun H7 e7 => ⟨p1, p2, rfl, e7 _ _ (e6 _ _ h1), e7 _ _ h2⟩
    intro H4 e4 Q q
    refine hA H4 e4 _ fun vs H5 e5 hvs => ?_
    obtain ⟨p1, p2, rfl, h1, h2⟩ := hvs
    refine ⟨p1, p2, _, _, rfl, sq_of h1, sq_of h2, by rw [f1, f2, List.length_map, List.length_map], by rw [f1, List.length_map, f8]; omega, fun H' l ts k1 k2 k3 k4 k5 => q (.ref l) H' (e5.trans k1) ⟨l, _, rfl, k3, paired_of ?_ fun i x y hx hy => ?_⟩⟩
    · rw [List.length_map, k4, f1, List.length_map]
    · rw [List.getElem?_map] at hx
      obtain ⟨t, ht, rfl⟩ := Option.map_eq_some_iff.mp hx
      exact ⟨t, rfl, k5 i t (.int y.1) (.int y.2) ht (by rw [f1, List.getElem?_map, hy]; rfl) (by rw [f2, List.getElem?_map, hy]; rfl)⟩
  subst hx
  obtain ⟨l, qs, rfl, hl, hS⟩ := hy
  have hql := paired_len hS
  have hlen : EvN (tLc (iList K (tVar 4)) (gTup K 2 (gCons (gName 5) (gCons (gName 6) gNil))) tYes (tVar 6) [5, 6]) (((((L2.start nm_spans_of [vB (mapB k), vN n]).set 2 (some (.ref np))).set 3 (some (vN 9))).set 4 (some (.ref l)))) H4 (Itm qs.length fun i v H' => ((spnI k)[i]?).elim False fun s => v = .int s.2) := by
    refine ep_lc _ (fun i v H H' _ h => h) (ei_list (K := K) (ev_var rfl) (sq_of hl)) (by omega) ex_at fun i x H5 H6 hi e hy => ?_
    obtain ⟨rfl, hx⟩ := hy
    obtain ⟨s1, hs1, b, rfl, hb⟩ := paired_get hS hx
    refine turn_pair (e _ _ hb) rfl ?_
    refine (ev_p (ev_var rfl)).imp fun v H7 e7 hv => ?_
    rw [hs1]
    exact hv
  have hlen2 : EvL (tLc (iList K (tVar 4)) (gTup K 2 (gCons (gName 5) (gCons (gName 6) gNil))) tYes (tVar 6) [5, 6]) (((((L2.start nm_spans_of [vB (mapB k), vN n]).set 2 (some (.ref np))).set 3 (some (vN 9))).set 4 (some (.ref l)))) H4 (((spnI k).map (·.2)).map V.int) := by
    refine EvN.toL (hlen.imp fun ys H5 e5 ⟨h1, h2⟩ => ?_)
    refine List.ext_getElem? fun i => ?_
    rw [List.getElem?_map, List.getElem?_map]
    cases e : ys[i]? with
    | none =>
      have := List.getElem?_eq_none_iff.mp e
      rw [List.getElem?_eq_none (by omega)]
      rfl
    | some y =>
      have h3 := h2 i y e
      have h4 := (List.getElem?_eq_some_iff.mp e).1
      cases e2 : (spnI k)[i]? with
      | none =>
        have := List.getElem?_eq_none_iff.mp e2
        omega
      | some s =>
        have h5 : ((spnI k)[i]?).elim False (fun s => y = .int s.2) := h3
        rw [e2] at h5
        exact congrArg some h5
  have mono : ∀ {H'}, Ex H4 H' → Paired (SpAt H') qs (spnI k) := fun e => L2.Paired.mapP hS fun _ _ z => (let ⟨b, z1, z2⟩ := z; ⟨b, z1, e _ _ z2⟩)
  refine q_when (et_or (a := false) (b := false) (et_is (et_I (i := (9 : Int)) (j := (4096 : Int)) (ev_var rfl) ev_c) (decide_eq_false (by decide))) fun _ => et_or (a := false) (b := false) (et_nT (et_B (ev_callV (z := .bl true) (ea_cons (ev_var rfl) (ea_cons (ev_var rfl) ea_nil)) rfl fun H5 e5 => ⟨9, l, qs, spnI k, rfl, e5 _ _ hl, mono e5, f6, f7, by omega, rfl⟩))) fun _ => et_is (et_ne (x := .int (((spnI k).map (·.2)).sum)) (y := vN n) ?_ (ev_var rfl) rfl) (by rw [f9, ← hn]; simp)) (fun h => nomatch h) fun _ H5 e5 => ?_
  · intro H5 e5 Q q
    have r := hlen2 H5 e5 (fun v H6 => ∃ (a : Addr) (ns : List Int), [v] = [V.ref a] ∧ SqL K H6 a (ns.map V.int) ∧ Q (V.int ns.sum) H6) fun p H6 hp e6 h6 => ⟨p, _, rfl, sq_of h6, q H6 e6⟩
    exact r
  refine s_retP (P := fun v H' => ∃ f, v = .ref f ∧ H' f = some (.tup [.int 9, .ref l])) (ep_if (b := true) (et_is (et_eq (x := vB (mapB k)) (y := vB (mapB k)) (ev_callV (ea_cons (ev_var rfl) (ea_cons (ev_var rfl) ea_nil)) rfl fun H6 e6 => ⟨k, l, qs, rfl, e6 _ _ (e5 _ _ hl), mono (e5.trans e6), hk, rfl⟩) (ev_var rfl) rfl) (by simp)) (fun _ => EvU.p (eu_tup (ea_cons (ev_var rfl) (ea_cons (ev_var rfl) ea_nil)) (by show 2 ≤ 100000; decide))) fun h => nomatch h) fun v H6 e6 hv => ?_
  obtain ⟨f', rfl, hf⟩ := hv
  have e46 := e5.trans e6
  exact q _ H6 (((((e1.trans e2).trans e3).trans e4).trans e46)) (hP f' l qs H6 hf (e46 _ _ hl) (mono e46))
end
end Tl
end

section
set_option Elab.async false
set_option linter.all false
set_option maxRecDepth 100000
set_option maxHeartbeats 2000000
/-! The law's draws. -/
namespace Tl
open PySem PySem.Spec PyProof.Rows L2 Evl
open Tar (By)
open C8 (Cal Met Mak pe_c pe_mk pe_mt pe_mt0 pe_gc fnScope_by)
abbrev rInt1 : List V → Hp → VK → Prop := fun xs H Q => (∃ i, xs = [V.int i] ∧ Q (V.int i) H) ∨ ∃ k, xs = [V.bl k] ∧ Q (V.int (if k = true then 1 else 0)) H
section
variable {σ : L2.St} {H : Hp} {ta tb : TE} {i j : Int}
theorem ev_int1 (ha : Ev ta σ H (.int i)) : Ev (tCB rInt1 (tCons ta tNil)) σ H (.int i) := ev_cb (ea_cons ha ea_nil) fun H1 _ Q q => .inl ⟨i, rfl, q H1 (Ex.refl H1)⟩
theorem ev_mod (ha : Ev ta σ H (.int i)) (hb : Ev tb σ H (.int j)) (h : 0 < j) : Ev (tOp (rI (fun _ j => 0 < j) fun i j => .int (i % j)) ta tb) σ H (.int (i % j)) := ev_IC (g := fun i j => i % j) ha hb h
theorem ev_abs (ha : Ev ta σ H (.int i)) : Ev (tCB (fun xs H Q => ∃ i, xs = [V.int i] ∧ Q (V.int (if i < 0 then -i else i)) H) (tCons ta tNil)) σ H (.int (if i < 0 then -i else i)) := ev_cb (ea_cons ha ea_nil) fun H1 _ Q q => ⟨i, rfl, q H1 (Ex.refl H1)⟩
theorem ev_min (ha : Ev ta σ H (.int i)) (hb : Ev tb σ H (.int j)) : Ev (tCB (fun xs H Q => ∃ i j, xs = [V.int i, V.int j] ∧ Q (V.int (if j < i then j else i)) H) (tCons ta (tCons tb tNil))) σ H (.int (if j < i then j else i)) := ev_cb (ea_cons ha (ea_cons hb ea_nil)) fun H1 _ Q q => ⟨i, j, rfl, q H1 (Ex.refl H1)⟩
theorem q_forR {σ : L2.St} {H : Hp} {D : Ends} {tz tu : TS} {g : TG} {te : TE} {n : Nat} (h : Ev te σ H (vN n)) (hn : n ≤ 100000) (Pv : Nat → L2.St → Hp → Prop) (h0 : ∀ H1, Ex H H1 → Pv 0 σ H1)
    (step : ∀ (i : Nat) (σ' : L2.St) (H' : Hp), i < n → Pv i σ' H' → g (vN i) σ' H' fun σ2 H2 => tu { nx := Pv (i + 1), rt := D.rt, bk := tz D, ct := Pv (i + 1) } σ2 H2) (fin : ∀ σ' H', Pv n σ' H' → tz D σ' H') : tSeq (tFor (iRng1 (tCons te tNil)) g tu) tz D σ H :=
  h H (Ex.refl H) _ fun H1 e1 => ⟨(n : Int), rfl, by omega, by omega, for_it (D := { D with nx := tz D }) (n := n) walk_range Pv (h0 H1 e1) (fun _ _ _ _ _ => trivial) (fun i x σ' H' H'' hi p y => by
    obtain ⟨rfl, rfl⟩ := y
    have h := step i σ' H'' hi p
    show g (V.int (0 + (i : Int))) σ' H'' _
    rw [Int.zero_add]
    exact h) fin⟩
theorem q_setL {σ : L2.St} {H : Hp} {D : Ends} {tz : TS} {tv to ti : TE} {v : V} {p : Addr} {xs : List V} {i : Int} {j : Nat} (h : Ev tv σ H v) (h1 : Ev to σ H (.ref p)) (h2 : Ev ti σ H (.int i)) (hp : H p = some (.lst xs)) (hi : ixN xs.length i = some j) (k : ∀ H1, Ex H H1 → tz D σ (upd H1 p (.lst (xs.set j v)))) :
    tSeq (tAsg tv (gSub to ti rSetL)) tz D σ H := h H (Ex.refl H) _ fun H1 e1 => h1 H1 e1 _ fun H2 e2 => h2 H2 (e1.trans e2) _ fun H3 e3 => ⟨p, xs, i, j, rfl, rfl, ((e1.trans e2).trans e3) _ _ hp, hi, k H3 ((e1.trans e2).trans e3)⟩
theorem cmulL {i j : Int} (h : -(2 ^ 64) < i ∧ i < 2 ^ 64) : CMul i j := .inl h
theorem cmulR {i j : Int} (h : -(2 ^ 64) < j ∧ j < 2 ^ 64) : CMul i j := .inr h
end
/-- the law's source of draws: a list of three whole numbers -/
def Src (H : Hp) (l : Addr) : Prop := ∃ x y z : Int, H l = some (.lst [.int x, .int y, .int z]) ∧ 0 ≤ x ∧ 0 ≤ y ∧ y < 2147483647
/-- all but the source stays -/
def KE (l : Addr) (H H' : Hp) : Prop := (∀ b o, b ≠ l → H b = some o → H' b = some o) ∧ Src H' l
theorem KE.refl {l : Addr} {H : Hp} (h : Src H l) : KE l H H := ⟨fun _ _ _ h => h, h⟩
theorem KE.trans {l : Addr} {H H1 H2 : Hp} (a : KE l H H1) (b : KE l H1 H2) : KE l H H2 := ⟨fun p o n h => b.1 p o n (a.1 p o n h), b.2⟩
theorem KE.of {l : Addr} {H H' : Hp} (s : Src H l) (e : Ex H H') : KE l H H' := ⟨fun b o _ h => e b o h, let ⟨x, y, z, h, r⟩ := s; ⟨x, y, z, e _ _ h, r⟩⟩
section
variable {P : Program} {w : World} {K : PySem.W.Frag} {mg : Str → Option Value} {base : Heap} {a : Ad}
abbrev nm_law_source : List Str := ["_law_script", "_law_at", "_law_cell", "_law_large", "_law_mix", "_law_k"]
theorem sc_law_source : FnScope nm_law_source ["_law_script", "_law_at"] (defScope s_law_source) := fnScope_by (by decide +kernel)
abbrev nm_law_draw : List Str := ["_law_source_here", "_law_many", "_law_digit"]
theorem sc_law_draw : FnScope nm_law_draw ["_law_source_here", "_law_many"] (defScope s_law_draw) := fnScope_by (by decide +kernel)
abbrev rSrc (K : PySem.W.Frag) : List V → Hp → (V → Hp → Prop) → Prop := fun vs H Pz => ∃ (l : Addr) (ns : List Int) (k : Nat), vs = [.ref l, vN k] ∧ SqL K H l (ns.map .int) ∧ ns.length ≤ 63 ∧ ∀ p H', H p = none → Src H' p → Pz (.ref p) H'
theorem ok_law_source (T : Txt K mg a) (F : DB K mg "_law_source" s_law_source ["_law_script", "_law_at"]) : Cal P w K mg base 1 "_law_source" (spP 2 (rSrc K)) [] := by
  refine cal_of F sc_law_source (fun _ _ _ _ h => h.1) fun f cdv A outer s H vs Q E hr h => ⟨_, (pss_cons (ps_set (i := 2) sc_law_source.nd rfl (Or.inl rfl) (pe_ifExp (pt_cmpR op_lt (pv 1) (pe_callB call_len (by rfl) T.b_len PySem.boot_len (pa_cons (pv 0) pa_nil)) (nomark _)) (pe_ix ix_seq (pv 0) (pv 1) (fun _ _ => rfl)) pe_int))
    (pss_cons (ps_set (i := 3) sc_law_source.nd rfl (Or.inl rfl) (pe_ifExp (pt_cmpR op_ge (pe_callB call_abs (by rfl) T.b_abs (by decide +kernel) (pa_cons (pv 2) pa_nil)) (pe_op op_pow pe_int pe_int) (nomark _)) (pe_op op_mod (pe_callTy call_int1 (by rfl) T.b_int (by decide +kernel) (pa_cons (pe_callB call_abs (by rfl) T.b_abs (by decide +kernel) (pa_cons (pv 2) pa_nil)) pa_nil)) (pe_op op_mulW (pe_op op_mulW (pe_op op_pow pe_int pe_int) (pe_op op_pow pe_int pe_int)) (pe_op op_pow pe_int pe_int))) pe_int))
    (pss_cons (ps_set (i := 4) sc_law_source.nd rfl (Or.inl rfl) (pe_op op_mod (pe_callTy call_int1 (by rfl) T.b_int (by decide +kernel) (pa_cons (pe_op op_add (pe_op op_add (pv 2) (pe_op op_mul pe_int (pv 1))) pe_int) pa_nil)) pe_int))
    (pss_cons (ps_for PassesOwn.never rfl (pi_range1 (by rfl) T.b_range (pa_cons (pe_callB (call_min2 rfl) (by rfl) T.b_min (by decide +kernel) (pa_cons (pe_callB call_len (by rfl) T.b_len PySem.boot_len (pa_cons (pv 0) pa_nil)) (pa_cons pe_int pa_nil))) pa_nil)) (pg_name (i := 5) sc_law_source.nd rfl (Or.inl rfl)) (pss_one (ps_set (i := 4) sc_law_source.nd rfl (Or.inl rfl) (pe_op op_mod (pe_callTy call_int1 (by rfl) T.b_int (by decide +kernel) (pa_cons (pe_op op_add (pe_op op_add (pe_op op_pow (pv 4) pe_int) (pe_op op_mod (pe_callTy call_int1 (by rfl) T.b_int (by decide +kernel) (pa_cons (pe_ix ix_seq (pv 0) (pv 5) (fun _ _ => rfl)) pa_nil)) pe_int)) (pe_op op_mul pe_int (pv 5))) pa_nil)) pe_int))))
    (pss_one (ps_ret (pe_lst (pa_cons (pv 3) (pa_cons (pv 4) (pa_cons pe_int pa_nil)))))))))), ?_⟩
  obtain ⟨_, _, ⟨l, ns, k, rfl, hl, hn, hP⟩, q⟩ := h
  have sq : SqL K H l (ns.map V.int) := hl
  have hlen : (ns.map V.int).length ≤ 63 := by rw [List.length_map]; exact hn
  refine q_asgP (P := fun v _ => ∃ c : Int, v = .int c) (ep_if (b := decide ((k : Int) < ((ns.map V.int).length : Int))) (et_I (g := fun i j => decide (i < j)) (ev_var rfl) (ev_lenL (ev_var rfl) sq)) (fun hb => ?_) fun _ => (ev_p ev_c).imp fun v _ _ h => ⟨0, h⟩) fun v H1 e1 hv => ?_
  · have hk : k < (ns.map V.int).length := by
      have := of_decide_eq_true hb
      omega
    rw [List.length_map] at hk
    refine (ev_p (ev_op (ev_var rfl) (ev_var rfl) (rv_ixl sq (atI_nat (by rw [List.getElem?_map, List.getElem?_eq_getElem hk]; rfl))))).imp fun v _ _ h => ⟨_, h⟩
  obtain ⟨c, rfl⟩ := hv
  refine q_asgP (P := fun v _ => ∃ x : Int, v = .int x ∧ 0 ≤ x) (ep_if (b := decide ((10 : Int) ^ 18 ≤ if c < 0 then -c else c)) (et_I (g := fun i j => decide (j ≤ i)) (ev_abs (ev_var rfl)) (ev_IC (C := CPow) (g := fun i j => i ^ j.toNat) (i := 10) (j := 18) ev_c ev_c ⟨by decide, by decide, by decide⟩)) (fun hb => ?_) fun _ => (ev_p ev_c).imp fun v _ _ h => ⟨0, h, Int.le_refl 0⟩) fun v H2 e2 hv => ?_
  · have m60 : CMulW ((10 : Int) ^ 60) (10 ^ 60) := (show ((10 : Int) ^ 60).natAbs.log2 + ((10 : Int) ^ 60).natAbs.log2 < 1000000 by decide +kernel)
    have m120 : CMulW ((10 : Int) ^ 60 * 10 ^ 60) (10 ^ 60) := (show ((10 : Int) ^ 60 * 10 ^ 60).natAbs.log2 + ((10 : Int) ^ 60).natAbs.log2 < 1000000 by decide +kernel)
    have h60 : Ev (tOp (rI CPow fun i j => V.int (i ^ j.toNat)) (tC (V.int 10)) (tC (V.int 60))) ((L2.start nm_law_source [.ref l, vN k]).set 2 (some (.int c))) H1 (.int ((10 : Int) ^ 60)) := ev_IC (g := fun i j => i ^ j.toNat) ev_c ev_c ⟨by decide, by decide, by decide⟩
    refine (ev_p (ev_mod (i := if c < 0 then -c else c) (j := (10 : Int) ^ 60 * 10 ^ 60 * 10 ^ 60) (ev_int1 (ev_abs (i := c) (ev_var (i := 2) rfl))) (ev_IC (C := CMulW) (g := fun i j => i * j) (ev_IC (C := CMulW) (g := fun i j => i * j) h60 h60 m60) h60 m120) (by decide +kernel))).imp fun v _ _ h => ⟨_, h, Int.emod_nonneg _ (by decide +kernel)⟩
  obtain ⟨x, rfl, hx⟩ := hv
  refine q_asg (ev_mod (ev_int1 (ev_I (g := fun i j => i + j) (ev_I (g := fun i j => i + j) (ev_var rfl) (ev_IC (g := fun i j => i * j) ev_c (ev_var rfl) (cmulL (by decide)))) ev_c)) ev_c (by decide)) fun H3 e3 => ?_
  have e03 := (e1.trans e2).trans e3
  refine q_forR (n := min ns.length 9) (ev_is (ev_min (ev_lenL (ev_var rfl) (ex_l e03 hl)) ev_c) (by rw [List.length_map]; split <;> congr 1 <;> omega)) (by omega) (fun i σ' H' => (∃ (y : Int) (u : Option V), σ' = [some (.ref l), some (vN k), some (.int c), some (.int x), some (.int y), u] ∧ 0 ≤ y ∧ y < 2147483647) ∧ Ex H H') (fun H4 e4 => ⟨⟨_, none, rfl, Int.emod_nonneg _ (by decide), Int.emod_lt_of_pos _ (by decide)⟩, e03.trans e4⟩) ?_ ?_
  · rintro i σ' H' hi ⟨⟨y, u, rfl, h0, h1⟩, e⟩
    have hi' : i < ns.length := by omega
    refine s_asg (ev_mod (ev_int1 (ev_I (g := fun i j => i + j) (ev_I (g := fun i j => i + j) (ev_IC (g := fun i j => i ^ j.toNat) (ev_var rfl) ev_c ⟨by decide, by decide, by omega⟩) (ev_mod (ev_int1 (ev_op (ev_var rfl) (ev_var rfl) (rv_ixl (ex_l e hl) (atI_nat (x := V.int (ns[i])) (by rw [List.getElem?_map, List.getElem?_eq_getElem hi']; rfl))))) ev_c (by decide))) (ev_IC (g := fun i j => i * j) ev_c (ev_var rfl) (cmulL (by decide))))) ev_c (by decide)) fun H5 e5 => ⟨⟨_, _, rfl, Int.emod_nonneg _ (by decide), Int.emod_lt_of_pos _ (by decide)⟩, e.trans e5⟩
  · rintro σ' H' ⟨⟨y, u, rfl, h0, h1⟩, e⟩
    refine s_retL (el_lst (ea_cons (ev_var rfl) (ea_cons (ev_var rfl) (ea_cons ev_c ea_nil))) (by show 3 ≤ 100000; decide)) fun p H5 hp e5 h5 => q _ H5 (e.trans e5) (hP p H5 (fresh_back e hp) ⟨x, y, 0, h5, hx, h0, h1⟩)
/-- a draw -/
abbrev spDr : Sp := fun vs H Q _ => ∃ (l : Addr) (k : Nat), vs = [.ref l, vN k] ∧ Src H l ∧ 0 < k ∧ k.log2 < 9000 ∧ ∀ r H', r < k → KE l H H' → Q (vN r) H'
theorem ok_law_draw (T : Txt K mg a) (F : DB K mg "_law_draw" s_law_draw ["_law_source_here", "_law_many"]) : Cal P w K mg base 1 "_law_draw" spDr [] := by
  refine cal_of F sc_law_draw (fun vs _ _ _ h => by obtain ⟨l, k, rfl, _⟩ := h; rfl) fun f cdv A outer s H vs Q E hr h => ⟨_, (pss_cons (ps_if (pt_cmpR op_gt (pe_ix ix_seq (pv 0) pe_int (fun _ _ => rfl)) pe_int (nomark _)) (pss_cons (ps_set (i := 2) sc_law_draw.nd rfl (Or.inl rfl) (pe_op op_mod (pe_callTy call_int1 (by rfl) T.b_int (by decide +kernel) (pa_cons (pe_ix ix_seq (pv 0) pe_int (fun _ _ => rfl)) pa_nil)) (pv 1)))
    (pss_cons (ps_asg (pe_op op_fdivW (pe_ix ix_seq (pv 0) pe_int (fun _ _ => rfl)) (pv 1)) (pg_sub (pv 0) pe_int set_list))
    (pss_one (ps_ret (pv 2))))) pss_nil)
    (pss_cons (ps_asg (pe_op op_add (pe_ix ix_seq (pv 0) pe_int (fun _ _ => rfl)) pe_int) (pg_sub (pv 0) pe_int set_list))
    (pss_cons (ps_asg (pe_op op_mod (pe_callTy call_int1 (by rfl) T.b_int (by decide +kernel) (pa_cons (pe_op op_add (pe_op op_add (pe_op op_pow (pe_ix ix_seq (pv 0) pe_int (fun _ _ => rfl)) pe_int) (pe_op op_mul pe_int (pe_ix ix_seq (pv 0) pe_int (fun _ _ => rfl)))) pe_int) pa_nil)) pe_int) (pg_sub (pv 0) pe_int set_list))
    (pss_one (ps_ret (pe_op op_mod (pe_callTy call_int1 (by rfl) T.b_int (by decide +kernel) (pa_cons (pe_op op_fdivW (pe_op op_mod (pe_callTy call_int1 (by rfl) T.b_int (by decide +kernel) (pa_cons (pe_op op_mul (pe_ix ix_seq (pv 0) pe_int (fun _ _ => rfl)) pe_int) pa_nil)) pe_int) pe_int) pa_nil)) (pv 1))))))), ?_⟩
  obtain ⟨l, k, rfl, ⟨x, y, z, hl, hx, hy, hy2⟩, hk, hk2, q⟩ := h
  have x0 : ∀ {H1 : Hp} {σ' : L2.St} {x y z : Int}, σ'[0]? = some (some (.ref l)) → H1 l = some (.lst [.int x, .int y, .int z]) → Ev (tOp (rIx K) (tVar 0) (tC (.int 0))) σ' H1 (.int x) := fun hv h => ev_op (ev_var hv) ev_c (rv_ixl (sq_of h) rfl)
  have x1 : ∀ {H1 : Hp} {σ' : L2.St} {x y z : Int}, σ'[0]? = some (some (.ref l)) → H1 l = some (.lst [.int x, .int y, .int z]) → Ev (tOp (rIx K) (tVar 0) (tC (.int 1))) σ' H1 (.int y) := fun hv h => ev_op (ev_var hv) ev_c (rv_ixl (sq_of h) rfl)
  have x2 : ∀ {H1 : Hp} {σ' : L2.St} {x y z : Int}, σ'[0]? = some (some (.ref l)) → H1 l = some (.lst [.int x, .int y, .int z]) → Ev (tOp (rIx K) (tVar 0) (tC (.int 2))) σ' H1 (.int z) := fun hv h => ev_op (ev_var hv) ev_c (rv_ixl (sq_of h) rfl)
  refine q_when (et_I (g := fun i j => decide (j < i)) (x0 rfl hl) ev_c) (fun hb H1 e1 => ?_) fun hb H1 e1 => ?_
  · have h1 := e1 _ _ hl
    have hb' := of_decide_eq_true hb
    have hki : (0 : Int) < (k : Int) := by omega
    refine q_asg (ev_mod (ev_int1 (x0 rfl h1)) (ev_var rfl) hki) fun H2 e2 => ?_
    refine q_setL (xs := [.int x, .int y, .int z]) (j := 0) (ev_IC (g := fun i j => i / j) (x0 rfl (e2 _ _ h1)) (ev_var rfl) ⟨hki, hk2⟩) (ev_var rfl) ev_c (e2 _ _ h1) rfl fun H3 e3 => ?_
    have e := (e1.trans e2).trans e3
    have hr : (x % (k : Int)).toNat < k := by
      have a1 := Int.emod_nonneg x (Int.ne_of_gt hki)
      have a2 := Int.emod_lt_of_pos x hki
      omega
    have hv : V.int (x % (k : Int)) = vN (x % (k : Int)).toNat := congrArg V.int (Int.toNat_of_nonneg (Int.emod_nonneg x (Int.ne_of_gt hki))).symm
    refine s_ret (v := vN (x % (k : Int)).toNat) (ev_is (ev_var rfl) hv) fun H4 e4 => q _ H4 hr ⟨fun b o n hbo => e4 _ _ (by rw [upd_ne n]; exact e _ _ hbo), x / k, y, z, e4 _ _ upd_same, Int.ediv_nonneg hx (by omega), hy, hy2⟩
  · have h1 := e1 _ _ hl
    refine q_setL (xs := [.int x, .int y, .int z]) (j := 2) (ev_I (g := fun i j => i + j) (x2 rfl h1) ev_c) (ev_var rfl) ev_c h1 rfl fun H2 e2 => ?_
    have h2 : (upd H2 l (.lst [.int x, .int y, .int (z + 1)])) l = some (.lst [.int x, .int y, .int (z + 1)]) := upd_same
    show tSeq _ _ _ _ (upd H2 l (.lst [.int x, .int y, .int (z + 1)]))
    generalize hH : upd H2 l (.lst [.int x, .int y, .int (z + 1)]) = HH at h2
    have k2 : ∀ b o, b ≠ l → H b = some o → HH b = some o := fun b o n hbo => by
      rw [← hH, upd_ne n]
      exact e2 _ _ (e1 _ _ hbo)
    refine q_setL (xs := [.int x, .int y, .int (z + 1)]) (j := 1) (ev_mod (ev_int1 (ev_I (g := fun i j => i + j) (ev_I (g := fun i j => i + j) (ev_IC (g := fun i j => i ^ j.toNat) (x1 rfl h2) ev_c ⟨by decide, by decide, by omega⟩) (ev_IC (g := fun i j => i * j) ev_c (x2 rfl h2) (cmulL (by decide)))) ev_c)) ev_c (by decide)) (ev_var rfl) ev_c h2 rfl fun H3 e3 => ?_
    generalize hy' : (y ^ (5 : Int).toNat + 48271 * (z + 1) + 11) % 2147483647 = y'
    have hy0 : 0 ≤ y' := by rw [← hy']; exact Int.emod_nonneg _ (by decide)
    have hy1 : y' < 2147483647 := by rw [← hy']; exact Int.emod_lt_of_pos _ (by decide)
    have h3 : (upd H3 l (.lst [.int x, .int y', .int (z + 1)])) l = some (.lst [.int x, .int y', .int (z + 1)]) := upd_same
    show tRet _ _ _ (upd H3 l (.lst [.int x, .int y', .int (z + 1)]))
    generalize hH3 : upd H3 l (.lst [.int x, .int y', .int (z + 1)]) = HH3 at h3
    have k3 : ∀ b o, b ≠ l → H b = some o → HH3 b = some o := fun b o n hbo => by
      rw [← hH3, upd_ne n]
      exact e3 _ _ (k2 b o n hbo)
    have hki : (0 : Int) < (k : Int) := by omega
    generalize hW : y' * 69621 % 2147483629 / 8 = W
    have hr : (W % (k : Int)).toNat < k := by
      have a1 := Int.emod_nonneg W (Int.ne_of_gt hki)
      have a2 := Int.emod_lt_of_pos W hki
      omega
    have hv : V.int (W % (k : Int)) = vN (W % (k : Int)).toNat := congrArg V.int (Int.toNat_of_nonneg (Int.emod_nonneg W (Int.ne_of_gt hki))).symm
    refine s_ret (v := vN (W % (k : Int)).toNat) (ev_is (ev_mod (i := W) (ev_int1 (ev_is (ev_IC (g := fun i j => i / j) (ev_mod (ev_int1 (ev_IC (g := fun i j => i * j) (x1 rfl h3) ev_c (cmulR (by decide)))) ev_c (by decide)) ev_c (show _ ∧ _ from ⟨by decide, by decide +kernel⟩)) (by rw [← hW]))) (ev_var rfl) hki) hv) fun H4 e4 => q _ H4 hr ⟨fun b o n hbo => e4 _ _ (k3 b o n hbo), x, y', z + 1, e4 _ _ h3, hx, hy0, hy1⟩
end
end Tl
end

section
set_option Elab.async false
set_option linter.all false
set_option maxRecDepth 100000
set_option maxHeartbeats 2000000
/-! The law's members. -/
namespace Tl
open PySem PySem.Spec PyProof.Rows L2 Evl
open Tar (By)
open C8 (Cal Met Mak pe_c pe_mk pe_mt pe_mt0 pe_gc fnScope_by)
/-- what an expression with draws gives -/
def EvS (l : Addr) (te : TE) (σ : L2.St) (H : Hp) (P : V → Hp → Prop) : Prop := ∀ H1, KE l H H1 → ∀ Q : VK, (∀ v H2, KE l H1 H2 → P v H2 → Q v H2) → te σ H1 Q
def EvAS (l : Addr) (ta : TA) (σ : L2.St) (H : Hp) (P : List V → Hp → Prop) : Prop := ∀ H1, KE l H H1 → ∀ Q : List V → Hp → Prop, (∀ v H2, KE l H1 H2 → P v H2 → Q v H2) → ta σ H1 Q
section
variable {l : Addr} {σ : L2.St} {H : Hp} {ta te tb : TE} {tl : TA} {P : V → Hp → Prop} {Pa : List V → Hp → Prop}
theorem es_of (h : ∀ H1, KE l H H1 → EvP te σ H1 P) : EvS l te σ H P := fun H1 e Q q => h H1 e H1 (Ex.refl H1) Q fun v H2 e2 p => q v H2 (KE.of e.2 e2) p
theorem eas_of (h : ∀ H1, KE l H H1 → EvAP tl σ H1 Pa) : EvAS l tl σ H Pa := fun H1 e Q q => h H1 e H1 (Ex.refl H1) Q fun v H2 e2 p => q v H2 (KE.of e.2 e2) p
theorem EvS.imp {P' : V → Hp → Prop} (h : EvS l te σ H P) (k : ∀ x H1, KE l H H1 → P x H1 → P' x H1) : EvS l te σ H P' := fun H1 e Q q => h H1 e Q fun x H2 e2 p => q x H2 e2 (k x H2 (e.trans e2) p)
theorem eas_nil (h : ∀ H1, KE l H H1 → Pa [] H1) : EvAS l tNil σ H Pa := fun H1 e Q q => q [] H1 (KE.refl e.2) (h H1 e)
theorem eas_cons {P2 : List V → Hp → Prop} (h : EvS l te σ H P) (hr : ∀ x H1, KE l H H1 → P x H1 → EvAS l tl σ H1 (fun vs H2 => P2 (x :: vs) H2)) : EvAS l (tCons te tl) σ H P2 := fun H1 e Q q =>
  h H1 e _ fun x H2 e2 p => hr x H2 (e.trans e2) p H2 (KE.refl e2.2) _ fun vs H3 e3 p3 => q _ H3 (e2.trans e3) p3
theorem es_draw {E : XK} {i k : Nat} (hi : σ[i]? = some (some (.ref l))) (hk : 0 < k) (hk2 : k.log2 < 9000) (h : ∀ H1, KE l H H1 → Ev te σ H1 (vN k)) : EvS l (tCall spDr [] E (tCons (tVar i) (tCons te tNil))) σ H (fun v _ => ∃ r, r < k ∧ v = vN r) := fun H1 e Q q =>
  (ea_cons (ev_var hi) (ea_cons (h H1 e) ea_nil)) H1 (Ex.refl H1) _ fun H2 e2 => ⟨l, k, rfl, (KE.of e.2 e2).2, hk, hk2, fun r H' hr k' => q _ H' ((KE.of e.2 e2).trans k') ⟨r, hr, rfl⟩⟩
theorem q_asgS {D : Ends} {tz : TS} {i : Nat} (h : EvS l te σ H P) (s : Src H l) (k : ∀ x H1, KE l H H1 → P x H1 → tz D (σ.set i (some x)) H1) : tSeq (tAsg te (gName i)) tz D σ H := h H (KE.refl s) _ fun x H1 e p => k x H1 e p
theorem q_par3S {D : Ends} {tz : TS} {i j m : Nat} (h : EvAS l tl σ H Pa) (s : Src H l) (k : ∀ vs H1, KE l H H1 → Pa vs H1 → ∃ u v w, vs = [u, v, w] ∧ tz D (((σ.set i (some u)).set j (some v)).set m (some w)) H1) : tSeq (tPar3 i j m tl) tz D σ H := h H (KE.refl s) _ fun vs H1 e p => k vs H1 e p
theorem es_tup {Pa : List V → Prop} (h : EvAS l tl σ H (fun vs _ => Pa vs)) (hz : ∀ vs, Pa vs → vs.length ≤ 100000) : EvS l (tTup tl) σ H (fun v H' => ∃ p vs, v = .ref p ∧ H' p = some (.tup vs) ∧ Pa vs) := fun H1 e Q q =>
  h H1 e _ fun vs H2 e2 p => ⟨sz_of (hz vs p), fun r hr => q _ _ (e2.trans (KE.of e2.2 (Ex.new hr))) ⟨r, vs, rfl, upd_same, p⟩⟩
theorem es_pick {K : PySem.W.Frag} {n : Nat} {Pv : V → Prop} (h : EvAS l tl σ H (fun vs _ => vs.length = n ∧ ∀ v ∈ vs, Pv v)) (hd : ∀ H1, KE l H H1 → EvS l te σ H1 (fun v _ => ∃ r, r < n ∧ v = vN r)) (hn : n ≤ 100000) : EvS l (tOp (rIx K) (tLst tl) te) σ H (fun v _ => Pv v) := fun H1 e Q q =>
  h H1 e _ fun vs H2 e2 p => ⟨sz_of (by rw [p.1]; exact hn), fun r hr => by
    have k2 := KE.of e2.2 (Ex.new (o := .lst vs) hr)
    have hrl : r ≠ l := fun z => by
      obtain ⟨x, y, w, h, _⟩ := e2.2
      rw [← z, hr] at h
      cases h
    refine hd _ (e.trans (e2.trans k2)) _ (KE.refl k2.2) _ fun v H3 e3 pv => ?_
    obtain ⟨j, hj, rfl⟩ := pv
    have hj2 : j < vs.length := by rw [p.1]; exact hj
    have hv : vs[j]? = some vs[j] := List.getElem?_eq_getElem hj2
    exact rv_ixl (sq_of (e3.1 _ _ hrl upd_same)) (atI_nat hv) H3 (Ex.refl H3) Q fun H4 e4 => q _ H4 (e2.trans (k2.trans (e3.trans (KE.of e3.2 e4)))) (p.2 _ (List.getElem_mem hj2))⟩
theorem q_unpS {K : PySem.W.Frag} {D : Ends} {tz : TS} {n : Nat} {gs : TGs} {Pa : List V → Prop} (h : EvS l te σ H (fun v H' => ∃ p vs, v = .ref p ∧ H' p = some (.tup vs) ∧ Pa vs)) (s : Src H l) (k : ∀ p vs H1, KE l H H1 → H1 p = some (.tup vs) → Pa vs → gTup K n gs (.ref p) σ H1 (tz D)) : tSeq (tAsg te (gTup K n gs)) tz D σ H :=
  h H (KE.refl s) _ fun x H1 e p => by
    obtain ⟨p, vs, rfl, h1, h2⟩ := p
    exact k p vs H1 e h1 h2
theorem s_retS {D : Ends} (h : EvS l te σ H P) (s : Src H l) (k : ∀ x H1, KE l H H1 → P x H1 → D.rt x H1) : tRet te D σ H := h H (KE.refl s) _ fun x H1 e p => k x H1 e p
end
theorem KE.fresh {l p : Addr} {H H' : Hp} (k : KE l H H') (h : H' p = none) : H p = none := by
  obtain ⟨x, y, z, hl, _⟩ := k.2
  cases e : H p with
  | none => rfl
  | some o =>
    by_cases hp : p = l
    · rw [hp, hl] at h
      cases h
    · rw [k.1 p o hp e] at h
      cases h
theorem el_rep {σ : L2.St} {H : Hp} {ta tb : TE} {xs : List V} {k : Nat} (h : EvL ta σ H xs) (hk : Ev tb σ H (vN k)) (hz : xs.length * k ≤ 100000) (hk2 : k ≤ 100000) : EvL (tOp rRep ta tb) σ H (List.replicate k xs).flatten := fun H1 e Q q =>
  h H1 e _ fun p H2 hp e2 h2 => hk H2 (e.trans e2) _ fun H3 e3 => ⟨p, (k : Int), xs, rfl, rfl, e3 _ _ h2, by omega, by omega, sz_of hz, fun p2 hp2 => q p2 _ (fresh_back (e2.trans e3) hp2) ((e2.trans e3).trans (Ex.new hp2)) upd_same⟩
theorem el_slT {K : PySem.W.Frag} {σ : L2.St} {H : Hp} {te : TE} {tl th : TO} {xs : List V} {lo hi : Option Int} (h : EvL te σ H xs) (h1 : EvO tl σ H lo) (h2 : EvO th σ H hi) : EvL (tSl (rSlL K) te tl th) σ H (cutV xs lo hi) := fun H1 e Q q =>
  h H1 e _ fun p H2 hp e2 hx => h1 H2 (e.trans e2) _ fun H3 e3 => h2 H3 ((e.trans e2).trans e3) _ fun H4 e4 => ⟨p, xs, rfl, sq_of (e4 _ _ (e3 _ _ hx)), fun p2 hp2 => q p2 _ (fresh_back ((e2.trans e3).trans e4) hp2) (((e2.trans e3).trans e4).trans (Ex.new hp2)) upd_same⟩
theorem bytes_vals : ∀ {xs : List V}, (∀ v ∈ xs, ∃ n : Nat, n < 256 ∧ v = vN n) → ∃ d : By, d.length = xs.length ∧ xs = d.map fun b => vN b.toNat
  | [], _ => ⟨[], rfl, rfl⟩
  | x :: xs, h => by
    obtain ⟨n, hn, rfl⟩ := h x (List.mem_cons_self ..)
    obtain ⟨d, h1, h2⟩ := bytes_vals fun v hv => h v (List.mem_cons_of_mem _ hv)
    refine ⟨UInt8.ofNat n :: d, congrArg (· + 1) h1, ?_⟩
    rw [List.map_cons, ← h2, UInt8.toNat_ofNat_of_lt' (by exact hn)]
section
variable {P : Program} {w : World} {K : PySem.W.Frag} {mg : Str → Option Value} {base : Heap} {a : Ad}
abbrev nm_law_random_numbers : List Str := ["_law_source_here", "_law_many", "_law_first", "_law_step", "_law_way", "_law_k"]
theorem sc_law_random_numbers : FnScope nm_law_random_numbers ["_law_source_here", "_law_many"] (defScope s_law_random_numbers) := fnScope_by (by decide +kernel)
abbrev nm_law_stamps : List Str := ["_law_source_here", "_law_bits"]
theorem sc_law_stamps : FnScope nm_law_stamps ["_law_source_here"] (defScope s_law_stamps) := fnScope_by (by decide +kernel)
abbrev spRN : Sp := fun vs H Q _ => ∃ (l : Addr) (n : Nat), vs = [.ref l, vN n] ∧ Src H l ∧ n ≤ 8 ∧ ∀ p (d : By) H', d.length = n → H p = none → KE l H H' → H' p = some (.lst (d.map fun b => vN b.toNat)) → Q (.ref p) H'
theorem ok_law_random_numbers (T : Txt K mg a) (F : DB K mg "_law_random_numbers" s_law_random_numbers ["_law_source_here", "_law_many"]) (c_law_draw : Cal P w K mg base 1 "_law_draw" spDr []) : Cal P w K mg base 2 "_law_random_numbers" spRN [] := by
  refine cal_of F sc_law_random_numbers (fun vs _ _ _ h => by obtain ⟨l, k, rfl, _⟩ := h; rfl) fun f cdv A outer s H vs Q E hr h => ⟨_, (pss_cons (ps_asg (pe_tup (pa_cons (C8.pe_c c_law_draw hr (by decide) rfl (pa_cons (pv 0) (pa_cons pe_int pa_nil))) (pa_cons (C8.pe_c c_law_draw hr (by decide) rfl (pa_cons (pv 0) (pa_cons pe_int pa_nil))) (pa_cons (C8.pe_c c_law_draw hr (by decide) rfl (pa_cons (pv 0) (pa_cons pe_int pa_nil))) pa_nil)))) (pg_tup rfl (pgs_cons (pg_name (i := 2) sc_law_random_numbers.nd rfl (Or.inr rfl)) (pgs_cons (pg_name (i := 3) sc_law_random_numbers.nd rfl (Or.inr rfl)) (pgs_cons (pg_name (i := 4) sc_law_random_numbers.nd rfl (Or.inl rfl)) pgs_nil)))))
    (pss_cons (ps_if (pt_cmpR op_eq (pv 4) pe_int (nomark _)) (pss_one (ps_ret (pe_op op_rep (pe_lst (pa_cons pe_int pa_nil)) (pv 1)))) pss_nil)
    (pss_cons (ps_if (pt_cmpR op_eq (pv 4) pe_int (nomark _)) (pss_one (ps_ret (pe_lc (own := [("_law_k", 5)]) (g := (gName 5)) (tt := tYes) rfl sc_law_random_numbers.nd (pi_range1 (by rfl) T.b_range (pa_cons (pv 1) pa_nil)) (blkOk_by (own := [("_law_k", 5)]) (N := nm_law_random_numbers) (sc := defScope s_law_random_numbers) (by decide +kernel)) (fun _ _ _ _ _ => (pg_name (i := 5) sc_law_random_numbers.nd rfl (Or.inl rfl))) (fun _ _ _ _ _ => pts_nil) (fun _ _ _ _ _ => (pe_op op_mod (pe_callTy call_int1 (by rfl) T.b_int (by decide +kernel) (pa_cons (pe_op op_add (pv 2) (pe_op op_mulW (pv 3) (pv 5))) pa_nil)) pe_int))))) pss_nil)
    (pss_one (ps_ret (pe_slice sl_list (pe_op op_rep (pe_lst (pa_cons pe_int (pa_cons (pv 2) (pa_cons pe_int (pa_cons pe_int (pa_cons (pv 3) (pa_cons pe_int (pa_cons pe_int pa_nil)))))))) (pe_op op_add (pe_op op_fdiv (pv 1) pe_int) pe_int)) po_none (po_some (pv 1)))))))), ?_⟩
  obtain ⟨l, n, rfl, hs, hn, q⟩ := h
  refine q_unpS (Pa := fun vs => ∃ u v w : Nat, u < 256 ∧ v < 256 ∧ w < 3 ∧ vs = [vN u, vN v, vN w]) (es_tup (eas_cons (es_draw rfl (by decide) (by decide +kernel) fun _ _ => ev_c) fun x H1 e1 hx => eas_cons (es_draw rfl (by decide) (by decide +kernel) fun _ _ => ev_c) fun y H2 e2 hy => eas_cons (es_draw rfl (by decide) (by decide +kernel) fun _ _ => ev_c) fun z H3 e3 hz => eas_nil fun _ _ => ?_) ?_) hs fun p vs H1 e1 hp hv => ?_
  · obtain ⟨u, hu, rfl⟩ := hx
    obtain ⟨v, hv, rfl⟩ := hy
    obtain ⟨w, hw, rfl⟩ := hz
    exact ⟨u, v, w, hu, hv, hw, rfl⟩
  · rintro vs ⟨u, v, w, _, _, _, rfl⟩
    show 3 ≤ 100000
    decide
  obtain ⟨u, v, w, hu, hv, hw, rfl⟩ := hv
  refine ⟨p, _, rfl, st_of hp, rfl, _, _, rfl, _, _, rfl, _, _, rfl, rfl, ?_⟩
  refine q_when (et_eq (x := vN w) (y := .int 0) (ev_var rfl) ev_c rfl) (fun hb H2 e2 => ?_) fun hb H2 e2 => ?_
  · have el : EvL (tOp rRep (tLst (tCons (tC (.int 0)) tNil)) (tVar 1)) ((((L2.start nm_law_random_numbers [V.ref l, vN n]).set 2 (some (vN u))).set 3 (some (vN v))).set 4 (some (vN w))) H2 (List.replicate n [vN 0]).flatten := el_rep (el_lst (ea_cons ev_c ea_nil) (by decide)) (ev_var rfl) (by simp; omega) (by omega)
    obtain ⟨d, h1, h2⟩ := bytes_vals (xs := (List.replicate n [vN 0]).flatten) fun v hv => by
      simp only [List.mem_flatten, List.mem_replicate] at hv
      obtain ⟨_, ⟨_, rfl⟩, hv⟩ := hv
      exact ⟨0, by decide, List.mem_singleton.mp hv⟩
    refine s_retL el fun p H3 hp e3 h3 => q p d H3 (by rw [h1]; simp) (e1.fresh (fresh_back e2 hp)) (e1.trans (KE.of e1.2 (e2.trans e3))) (by rw [h3, ← h2])
  have nn : ∀ (a b c : Nat), ((a : Int) + (b : Int) * (c : Int)) % 256 = (((a + b * c) % 256 : Nat) : Int) := fun a b c => by
    rw [Int.natCast_emod, Int.natCast_add, Int.natCast_mul]
    rfl
  refine q_when (et_eq (x := vN w) (y := .int 1) (ev_var rfl) ev_c rfl) (fun hb H3 e3 => ?_) fun hb H3 e3 => ?_
  · have el := el_lc (te := tOp (rI (fun x j => 0 < j) fun i j => V.int (i % j)) (tCB rInt1 (tCons (tOp (rI0 fun i j => V.int (i + j)) (tVar 2) (tOp (rI CMulW fun i j => V.int (i * j)) (tVar 3) (tVar 5))) tNil)) (tC (V.int 256))) (σ := (((L2.start nm_law_random_numbers [V.ref l, vN n]).set 2 (some (vN u))).set 3 (some (vN v))).set 4 (some (vN w))) (H := H3) (vs := [5]) (j := 5) (fun i => vN ((u + v * i) % 256)) (ei_rng1 (hi := (n : Int)) (ea_cons (ev_var (i := 1) rfl) ea_nil) (by omega)) (by omega) ex_fn (fun x => rfl) fun i x H5 H6 hi e hy => by
      obtain ⟨rfl, rfl⟩ := hy
      have cm : CMulW (v : Int) (i : Int) := by
        show (v : Int).natAbs.log2 + (i : Int).natAbs.log2 < 1000000
        have i8 : i < 8 := by
          have : i < n := hi
          omega
        have a1 : v.log2 ≤ v := Nat.log2_le_self v
        have a2 : i.log2 ≤ i := Nat.log2_le_self i
        show v.log2 + i.log2 < 1000000
        omega
      exact ev_is (ev_mod (ev_int1 (ev_I (g := fun i j => i + j) (ev_var rfl) (ev_IC (C := CMulW) (g := fun i j => i * j) (ev_var rfl) (ev_is (v := V.int (0 + (i : Int))) (w := vN i) (ev_var (i := 5) rfl) (congrArg V.int (Int.zero_add _))) cm))) ev_c (by decide)) (congrArg V.int (nn u v i))
    obtain ⟨d, h1, h2⟩ := bytes_vals (xs := (List.range (n : Int).toNat).map fun i => vN ((u + v * i) % 256)) fun v hv => by
      obtain ⟨i, _, rfl⟩ := List.mem_map.mp hv
      exact ⟨_, Nat.mod_lt _ (by decide), rfl⟩
    refine s_retL el fun p H4 hp e4 h4 => q p d H4 (by rw [h1, List.length_map, List.length_range]; rfl) (e1.fresh (fresh_back (e2.trans e3) hp)) (e1.trans (KE.of e1.2 ((e2.trans e3).trans e4))) (by rw [h4, ← h2])
  · have el : EvL (tSl (rSlL K) (tOp rRep (tLst (tCons (tC (V.int 0)) (tCons (tVar 2) (tCons (tC (V.int 1)) (tCons (tC (V.int 255)) (tCons (tVar 3) (tCons (tC (V.int 0)) (tCons (tC (V.int 0)) tNil)))))))) (tOp (rI0 fun i j => V.int (i + j)) (tOp (rI CDiv fun i j => V.int (i / j)) (tVar 1) (tC (V.int 7))) (tC (V.int 1)))) tNoPart (tPart (tVar 1))) ((((L2.start nm_law_random_numbers [V.ref l, vN n]).set 2 (some (vN u))).set 3 (some (vN v))).set 4 (some (vN w))) H3 (cutV (List.replicate (n / 7 + 1) [vN 0, vN u, vN 1, vN 255, vN v, vN 0, vN 0]).flatten none (some (n : Int))) := el_slT (el_rep (el_lst (ea_cons ev_c (ea_cons (ev_var rfl) (ea_cons ev_c (ea_cons ev_c (ea_cons (ev_var rfl) (ea_cons ev_c (ea_cons ev_c ea_nil))))))) (by show 7 ≤ 100000; decide)) (ev_is (ev_I (g := fun i j => i + j) (ev_IC (g := fun i j => i / j) (ev_var rfl) ev_c ⟨by decide, by decide⟩) ev_c) rfl) (by show 7 * (n / 7 + 1) ≤ 100000; omega) (by omega)) eo_none (eo_some (ev_var rfl))
    generalize hL : (List.replicate (n / 7 + 1) [vN 0, vN u, vN 1, vN 255, vN v, vN 0, vN 0]).flatten = L at el
    have hLl : L.length = 7 * (n / 7 + 1) := by
      rw [← hL]
      simp
      omega
    have hLm : ∀ x ∈ L, ∃ m : Nat, m < 256 ∧ x = vN m := fun x hx => by
      rw [← hL] at hx
      simp only [List.mem_flatten, List.mem_replicate] at hx
      obtain ⟨_, ⟨_, rfl⟩, hx⟩ := hx
      simp only [List.mem_cons, List.not_mem_nil, or_false] at hx
      rcases hx with rfl | rfl | rfl | rfl | rfl | rfl | rfl
      · exact ⟨0, by decide, rfl⟩
      · exact ⟨u, hu, rfl⟩
      · exact ⟨1, by decide, rfl⟩
      · exact ⟨255, by decide, rfl⟩
      · exact ⟨v, hv, rfl⟩
      · exact ⟨0, by decide, rfl⟩
      · exact ⟨0, by decide, rfl⟩
    have hcut : cutV L none (some (n : Int)) = L.take n := by
      have e1 : HT.sIx L.length L.length (some (n : Int)) = n := by
        rw [HT.sIx_nat, hLl]
        omega
      unfold cutV
      rw [e1]
      rfl
    rw [hcut] at el
    obtain ⟨d, h1, h2⟩ := bytes_vals (xs := L.take n) fun x hx => hLm x (List.mem_of_mem_take hx)
    refine s_retL el fun p H4 hp e4 h4 => q p d H4 (by rw [h1, List.length_take]; omega) (e1.fresh (fresh_back (e2.trans e3) hp)) (e1.trans (KE.of e1.2 ((e2.trans e3).trans e4))) (by rw [h4, ← h2])
abbrev spSt : Sp := fun vs H Q _ => ∃ (l : Addr), vs = [.ref l] ∧ Src H l ∧ ∀ p (mo ti : Nat) H', mo ≤ 4095 → ti ≤ 8589934591 → KE l H H' → H' p = some (.tup [vN mo, vN ti]) → Q (.ref p) H'
theorem ok_law_stamps (T : Txt K mg a) (F : DB K mg "_law_stamps" s_law_stamps ["_law_source_here"]) (c_law_draw : Cal P w K mg base 1 "_law_draw" spDr []) : Cal P w K mg base 2 "_law_stamps" spSt [] := by
  refine cal_of F sc_law_stamps (fun vs _ _ _ h => by obtain ⟨l, rfl, _⟩ := h; rfl) fun f cdv A outer s H vs Q E hr h => ⟨_, (pss_cons (ps_set (i := 1) sc_law_stamps.nd rfl (Or.inl rfl) (pe_ix ix_seq (pe_lst (pa_cons pe_int (pa_cons pe_int (pa_cons pe_int (pa_cons pe_int (pa_cons (C8.pe_c c_law_draw hr (by decide) rfl (pa_cons (pv 0) (pa_cons pe_int pa_nil))) pa_nil)))))) (C8.pe_c c_law_draw hr (by decide) rfl (pa_cons (pv 0) (pa_cons pe_int pa_nil))) (fun _ _ => rfl)))
    (pss_one (ps_ret (pe_tup (pa_cons (pv 1) (pa_cons (pe_ix ix_seq (pe_lst (pa_cons pe_int (pa_cons pe_int (pa_cons pe_int (pa_cons pe_int (pa_cons (C8.pe_c c_law_draw hr (by decide) rfl (pa_cons (pv 0) (pa_cons pe_int pa_nil))) pa_nil)))))) (C8.pe_c c_law_draw hr (by decide) rfl (pa_cons (pv 0) (pa_cons pe_int pa_nil))) (fun _ _ => rfl)) pa_nil)))))), ?_⟩
  obtain ⟨l, rfl, hs, q⟩ := h
  refine q_asgS (P := fun v _ => ∃ m, m ≤ 4095 ∧ v = vN m) (es_pick (n := 5) (eas_cons (es_of fun H1 _ => ev_p ev_c) fun x1 _ _ h1 => eas_cons (es_of fun H1 _ => ev_p ev_c) fun x2 _ _ h2 => eas_cons (es_of fun H1 _ => ev_p ev_c) fun x3 _ _ h3 => eas_cons (es_of fun H1 _ => ev_p ev_c) fun x4 _ _ h4 => eas_cons (es_draw (k := 4096) rfl (by decide) (by decide +kernel) fun _ _ => ev_c) fun x5 _ _ h5 => eas_nil fun _ _ => ⟨rfl, ?_⟩) (fun H1 _ => es_draw rfl (by decide) (by decide +kernel) fun _ _ => ev_c) (by decide)) hs fun x H1 e1 hx => ?_
  · obtain ⟨r, hr, rfl⟩ := h5
    intro v hv
    simp only [h1, h2, h3, h4, List.mem_cons, List.not_mem_nil, or_false] at hv
    rcases hv with rfl | rfl | rfl | rfl | rfl
    · exact ⟨0, by decide, rfl⟩
    · exact ⟨420, by decide, rfl⟩
    · exact ⟨493, by decide, rfl⟩
    · exact ⟨4095, by decide, rfl⟩
    · exact ⟨r, by omega, rfl⟩
  obtain ⟨mo, hm, rfl⟩ := hx
  refine s_retS (es_tup (Pa := fun vs => ∃ t, t ≤ 8589934591 ∧ vs = [vN mo, vN t]) (eas_cons (es_of fun H1 _ => ev_p (ev_var rfl)) fun x H2 e2 hx => eas_cons (P := fun v _ => ∃ t, t ≤ 8589934591 ∧ v = vN t) (es_pick (n := 5) (eas_cons (es_of fun H1 _ => ev_p ev_c) fun x1 _ _ h1 => eas_cons (es_of fun H1 _ => ev_p ev_c) fun x2 _ _ h2 => eas_cons (es_of fun H1 _ => ev_p ev_c) fun x3 _ _ h3 => eas_cons (es_of fun H1 _ => ev_p ev_c) fun x4 _ _ h4 => eas_cons (es_draw (k := 8589934592) rfl (by decide) (by decide +kernel) fun _ _ => ev_c) fun x5 _ _ h5 => eas_nil fun _ _ => ⟨rfl, ?_⟩) (fun H1 _ => es_draw rfl (by decide) (by decide +kernel) fun _ _ => ev_c) (by decide)) fun y H3 e3 hy => eas_nil fun _ _ => ?_) ?_) e1.2 fun v H2 e2 hv => ?_
  · obtain ⟨r, hr, rfl⟩ := h5
    intro v hv
    simp only [h1, h2, h3, h4, List.mem_cons, List.not_mem_nil, or_false] at hv
    rcases hv with rfl | rfl | rfl | rfl | rfl
    · exact ⟨0, by decide, rfl⟩
    · exact ⟨1, by decide, rfl⟩
    · exact ⟨7, by decide, rfl⟩
    · exact ⟨8589934591, by decide, rfl⟩
    · exact ⟨r, by omega, rfl⟩
  · obtain ⟨t, ht, rfl⟩ := hy
    exact ⟨t, ht, by rw [hx]⟩
  · rintro vs ⟨t, _, rfl⟩
    show 2 ≤ 100000
    decide
  · obtain ⟨p, vs, rfl, hp, t, ht, rfl⟩ := hv
    exact q p mo t H2 hm ht (e1.trans e2) hp
end
end Tl
end

section
set_option Elab.async false
set_option linter.all false
set_option maxRecDepth 100000
set_option maxHeartbeats 2000000
/-! The law's members: the plain lists, and the members made of them. -/
namespace Tl
open PySem PySem.Spec PyProof.Rows L2 Evl
open Tar (By)
open C8 (Cal Met Mak pe_c pe_mk pe_mt pe_mt0 pe_gc fnScope_by)
/-- the numbers of a blob -/
abbrev numsV (d : By) : List V := d.map fun b => vN b.toNat
def PlPc (H : Hp) (q : V) (p : Nat × By) : Prop := ∃ b nl, q = .ref b ∧ H b = some (.tup [vN p.1, .ref nl]) ∧ H nl = some (.lst (numsV p.2))
/-- the law's plain form of a member -/
def OneAt (H : Hp) (q : Addr) : Mem → Prop
  | .fil nm mo ti d => ∃ nl, H q = some (.lst [.str "file", vS nm, vN mo, vN ti, .ref nl]) ∧ H nl = some (.lst (numsV d))
  | .spa nm mo ti k x y => ∃ pl ps, H q = some (.lst [.str "sparse", vS nm, vN mo, vN ti, .int 9, .ref pl]) ∧ H pl = some (.lst ps) ∧ Paired (PlPc H) ps (pcs k x y)
  | .dir nm mo ti => H q = some (.lst [.str "directory", vS nm, vN mo, vN ti])
  | .sym nm mo ti tg => H q = some (.lst [.str "symlink", vS nm, vN mo, vN ti, vS tg])
  | .lnk nm mo ti tg => H q = some (.lst [.str "link", vS nm, vN mo, vN ti, vS tg])
theorem OneAt.mono {H H' : Hp} {q : Addr} (e : Ex H H') : ∀ {m : Mem}, OneAt H q m → OneAt H' q m
  | .fil .., ⟨nl, h1, h2⟩ => ⟨nl, e _ _ h1, e _ _ h2⟩
  | .spa .., ⟨pl, ps, h1, h2, h3⟩ => ⟨pl, ps, e _ _ h1, e _ _ h2, L2.Paired.mapP h3 fun _ _ ⟨b, nl, z1, z2, z3⟩ => ⟨b, nl, z1, e _ _ z2, e _ _ z3⟩⟩
  | .dir .., h => e _ _ h
  | .sym .., h => e _ _ h
  | .lnk .., h => e _ _ h
section
variable {P : Program} {w : World} {K : PySem.W.Frag} {mg : Str → Option Value} {base : Heap} {a : Ad}
theorem r_mk {D : Ends} {σ : L2.St} {H : Hp} {C : Addr} {m : Nat} {sp : SpI} {t tk : TA} {vs zs : List V} (h1 : EvA t σ H vs) (h2 : EvA tk σ H zs) (hm : zs.length = m) (k : ∀ H2 x dx, Ex H H2 → H2 x = none → H2 dx = none → sp (.ref x :: vs) zs (upd (upd H2 dx (.own x)) x (.ins C dx [])) (fun v H3 => v = .non ∧ D.rt (.ref x) H3)) : tRet (tMakeI C m sp t tk) D σ H :=
  go_mk h1 h2 hm fun H2 x dx e hx hdx _ => k H2 x dx e hx hdx
abbrev nm_law_made : List Str := ["_law_one", "_law_some", "_law_begin", "_law_numbers"]
theorem sc_law_made : FnScope nm_law_made ["_law_one"] (defScope s_law_made) := fnScope_by (by decide +kernel)
abbrev rMade (a : Ad) : List V → Hp → (V → Hp → Prop) → Prop := fun vs H Pz => ∃ (q : Addr) (m : Mem), vs = [.ref q] ∧ OneAt H q m ∧ m.Ok ∧ ∀ p H', H p = none → MemAt a H' p m → Pz (.ref p) H'
theorem ok_law_made (T : Txt K mg a) (M : Mcl K a) (F : DB K mg "_law_made" s_law_made ["_law_one"]) (c_blob : Cal P w K mg base 3 "blob" (spV 1 (rBlob K)) []) (c_Sparse : MakI P w K mg base 4 "Sparse" a.cSparse kwM (spSparse a))
    (c_File : MakI P w K mg base 4 "File" a.cFile kwM (spFile a)) (c_Directory : MakI P w K mg base 4 "Directory" a.cDir kwM (spDirectory a)) (c_Symlink : MakI P w K mg base 4 "Symlink" a.cSym kwM (spSymlink a)) (c_Link : MakI P w K mg base 4 "Link" a.cLink kwM (spLink a)) :
    Cal P w K mg base 6 "_law_made" (spP 1 (rMade a)) [] := by
  refine cal_of F sc_law_made (fun _ _ _ _ h => h.1) fun f cdv A outer s H vs Q E hr h => ⟨_, (pss_cons (ps_if (pt_cmpR op_eq (pe_ix ix_seq (pv 0) pe_int (fun _ _ => rfl)) pe_str (nomark _)) (pss_one (ps_ret (pe_mki c_File hr (by decide) rfl (pa_cons (pe_ix ix_seq (pv 0) pe_int (fun _ _ => rfl)) (pa_cons (C8.pe_c c_blob hr (by decide) rfl (pa_cons (pe_ix ix_seq (pv 0) pe_int (fun _ _ => rfl)) pa_nil)) pa_nil)) (pk_cons (pe_ix ix_seq (pv 0) pe_int (fun _ _ => rfl)) (pk_cons (pe_ix ix_seq (pv 0) pe_int (fun _ _ => rfl)) pk_nil))))) pss_nil)
    (pss_cons (ps_if (pt_cmpR op_eq (pe_ix ix_seq (pv 0) pe_int (fun _ _ => rfl)) pe_str (nomark _)) (pss_one (ps_ret (pe_mki c_Directory hr (by decide) rfl (pa_cons (pe_ix ix_seq (pv 0) pe_int (fun _ _ => rfl)) pa_nil) (pk_cons (pe_ix ix_seq (pv 0) pe_int (fun _ _ => rfl)) (pk_cons (pe_ix ix_seq (pv 0) pe_int (fun _ _ => rfl)) pk_nil))))) pss_nil)
    (pss_cons (ps_if (pt_cmpR op_eq (pe_ix ix_seq (pv 0) pe_int (fun _ _ => rfl)) pe_str (nomark _)) (pss_one (ps_ret (pe_mki c_Symlink hr (by decide) rfl (pa_cons (pe_ix ix_seq (pv 0) pe_int (fun _ _ => rfl)) (pa_cons (pe_ix ix_seq (pv 0) pe_int (fun _ _ => rfl)) pa_nil)) (pk_cons (pe_ix ix_seq (pv 0) pe_int (fun _ _ => rfl)) (pk_cons (pe_ix ix_seq (pv 0) pe_int (fun _ _ => rfl)) pk_nil))))) pss_nil)
    (pss_cons (ps_if (pt_cmpR op_eq (pe_ix ix_seq (pv 0) pe_int (fun _ _ => rfl)) pe_str (nomark _)) (pss_one (ps_ret (pe_mki c_Link hr (by decide) rfl (pa_cons (pe_ix ix_seq (pv 0) pe_int (fun _ _ => rfl)) (pa_cons (pe_ix ix_seq (pv 0) pe_int (fun _ _ => rfl)) pa_nil)) (pk_cons (pe_ix ix_seq (pv 0) pe_int (fun _ _ => rfl)) (pk_cons (pe_ix ix_seq (pv 0) pe_int (fun _ _ => rfl)) pk_nil))))) pss_nil)
    (pss_cons (ps_setLc (i := 1) (own := [("_law_begin", 2), ("_law_numbers", 3)]) (g := (gTup K 2 (gCons (gName 2) (gCons (gName 3) gNil)))) (tt := tYes) rfl sc_law_made.nd rfl rfl (sw_true rfl rfl rfl (by decide +kernel)) (pi_list (pe_ix ix_seq (pv 0) pe_int (fun _ _ => rfl))) (blkOk_by (own := [("_law_begin", 2), ("_law_numbers", 3)]) (N := nm_law_made) (sc := defScope s_law_made) (by decide +kernel)) (fun _ _ _ _ _ => (pg_tup rfl (pgs_cons (pg_name (i := 2) sc_law_made.nd rfl (Or.inl rfl)) (pgs_cons (pg_name (i := 3) sc_law_made.nd rfl (Or.inl rfl)) pgs_nil)))) (fun _ _ _ _ _ => pts_nil) (fun _ _ _ _ _ => (pe_tup (pa_cons (pv 2) (pa_cons (C8.pe_c c_blob hr (by decide) rfl (pa_cons (pv 3) pa_nil)) pa_nil)))))
    (pss_cons (ps_if (pt_cmpR op_eq (pe_callB call_len (by rfl) T.b_len PySem.boot_len (pa_cons (pv 1) pa_nil)) pe_int (nomark _)) (pss_one (ps_ret (pe_mki c_Sparse hr (by decide) rfl (pa_cons (pe_ix ix_seq (pv 0) pe_int (fun _ _ => rfl)) (pa_cons (pe_ix ix_seq (pv 0) pe_int (fun _ _ => rfl)) pa_nil)) (pk_cons (pe_ix ix_seq (pv 0) pe_int (fun _ _ => rfl)) (pk_cons (pe_ix ix_seq (pv 0) pe_int (fun _ _ => rfl)) pk_nil))))) pss_nil)
    (pss_cons (ps_if (pt_cmpR op_eq (pe_callB call_len (by rfl) T.b_len PySem.boot_len (pa_cons (pv 1) pa_nil)) pe_int (nomark _)) (pss_one (ps_ret (pe_mki c_Sparse hr (by decide) rfl (pa_cons (pe_ix ix_seq (pv 0) pe_int (fun _ _ => rfl)) (pa_cons (pe_ix ix_seq (pv 0) pe_int (fun _ _ => rfl)) (pa_cons (pe_ix ix_seq (pv 1) pe_int (fun _ _ => rfl)) pa_nil))) (pk_cons (pe_ix ix_seq (pv 0) pe_int (fun _ _ => rfl)) (pk_cons (pe_ix ix_seq (pv 0) pe_int (fun _ _ => rfl)) pk_nil))))) pss_nil)
    (pss_cons (ps_if (pt_cmpR op_eq (pe_callB call_len (by rfl) T.b_len PySem.boot_len (pa_cons (pv 1) pa_nil)) pe_int (nomark _)) (pss_one (ps_ret (pe_mki c_Sparse hr (by decide) rfl (pa_cons (pe_ix ix_seq (pv 0) pe_int (fun _ _ => rfl)) (pa_cons (pe_ix ix_seq (pv 0) pe_int (fun _ _ => rfl)) (pa_cons (pe_ix ix_seq (pv 1) pe_int (fun _ _ => rfl)) (pa_cons (pe_ix ix_seq (pv 1) pe_int (fun _ _ => rfl)) pa_nil)))) (pk_cons (pe_ix ix_seq (pv 0) pe_int (fun _ _ => rfl)) (pk_cons (pe_ix ix_seq (pv 0) pe_int (fun _ _ => rfl)) pk_nil))))) pss_nil)
    (pss_cons (ps_if (pt_cmpR op_eq (pe_callB call_len (by rfl) T.b_len PySem.boot_len (pa_cons (pv 1) pa_nil)) pe_int (nomark _)) (pss_one (ps_ret (pe_mki c_Sparse hr (by decide) rfl (pa_cons (pe_ix ix_seq (pv 0) pe_int (fun _ _ => rfl)) (pa_cons (pe_ix ix_seq (pv 0) pe_int (fun _ _ => rfl)) (pa_cons (pe_ix ix_seq (pv 1) pe_int (fun _ _ => rfl)) (pa_cons (pe_ix ix_seq (pv 1) pe_int (fun _ _ => rfl)) (pa_cons (pe_ix ix_seq (pv 1) pe_int (fun _ _ => rfl)) pa_nil))))) (pk_cons (pe_ix ix_seq (pv 0) pe_int (fun _ _ => rfl)) (pk_cons (pe_ix ix_seq (pv 0) pe_int (fun _ _ => rfl)) pk_nil))))) pss_nil) pss_no))))))))), ?_⟩
  obtain ⟨_, _, ⟨q0, m, rfl, h1, hok, hP⟩, q⟩ := h
  have fin : ∀ {H2 H3 : Hp} {x dx C : Addr}, H2 x = none → H2 dx = none → Ex H H2 → ExB x (upd (upd H2 dx (.own x)) x (.ins C dx [])) H3 → MemAt a H3 x m → V.non = V.non ∧ Q (.ref x) H3 := fun hx hdx e e5 hm => ⟨rfl, q _ _ (e.trans (mk_ex hx hdx e5)) (hP _ _ (fresh_back e hx) hm)⟩
  have ix : ∀ {H1 : Hp} {σ' : L2.St} {xs : List V} {v : V} {i : Int}, H1 q0 = some (.lst xs) → σ'[0]? = some (some (.ref q0)) → atI xs i = some v → Ev (tOp (rIx K) (tVar 0) (tC (.int i))) σ' H1 v := fun h hv hx => ev_op (ev_var hv) ev_c (rv_ixl (sq_of h) hx)
  have ne : ∀ {s t : Str}, (s == t) = false → decide (V.str s = V.str t) = false := fun h => decide_eq_false fun z => by
    cases z
    simp at h
  cases m with
  | fil nm mo ti d =>
    obtain ⟨nl, h1, h2⟩ := h1
    refine q_when (b := true) (et_is (et_eq (x := .str "file") (y := .str "file") (ix h1 rfl rfl) ev_c rfl) (by simp)) (fun _ H1 e1 => ?_) fun h => nomatch h
    have g1 := e1 _ _ h1
    exact r_mk (ea_cons (ix g1 rfl rfl) (ea_cons (ev_callV (z := vB d) (ea_cons (ix g1 rfl rfl) ea_nil) rfl fun H2 e2 => ⟨nl, d, rfl, e2 _ _ (e1 _ _ h2), by have := hok.2; omega, rfl⟩) ea_nil)) (ea_cons (ix g1 rfl rfl) (ea_cons (ix g1 rfl rfl) ea_nil)) rfl fun H2 x dx e2 hx hdx => ⟨x, dx, nm, mo, ti, d, rfl, rfl, upd_same, hok.1, hok.2, fun H3 e3 hm => fin hx hdx (e1.trans e2) e3 hm⟩
  | dir nm mo ti =>
    refine q_when (b := false) (et_is (et_eq (x := .str "directory") (y := .str "file") (ix h1 rfl rfl) ev_c rfl) (ne (by decide +kernel))) (fun h => nomatch h) fun _ H1 e1 => ?_
    refine q_when (b := true) (et_is (et_eq (x := .str "directory") (y := .str "directory") (ix (e1 _ _ h1) rfl rfl) ev_c rfl) (by simp)) (fun _ H2 e2 => ?_) fun h => nomatch h
    have g1 := e2 _ _ (e1 _ _ h1)
    exact r_mk (ea_cons (ix g1 rfl rfl) ea_nil) (ea_cons (ix g1 rfl rfl) (ea_cons (ix g1 rfl rfl) ea_nil)) rfl fun H3 x dx e3 hx hdx => ⟨x, dx, nm, mo, ti, rfl, rfl, upd_same, hok, fun H4 e4 hm => fin hx hdx ((e1.trans e2).trans e3) e4 hm⟩
  | sym nm mo ti tg =>
    refine q_when (b := false) (et_is (et_eq (x := .str "symlink") (y := .str "file") (ix h1 rfl rfl) ev_c rfl) (ne (by decide +kernel))) (fun h => nomatch h) fun _ H1 e1 => ?_
    refine q_when (b := false) (et_is (et_eq (x := .str "symlink") (y := .str "directory") (ix (e1 _ _ h1) rfl rfl) ev_c rfl) (ne (by decide +kernel))) (fun h => nomatch h) fun _ H2 e2 => ?_
    refine q_when (b := true) (et_is (et_eq (x := .str "symlink") (y := .str "symlink") (ix (e2 _ _ (e1 _ _ h1)) rfl rfl) ev_c rfl) (by simp)) (fun _ H3 e3 => ?_) fun h => nomatch h
    have e13 := (e1.trans e2).trans e3
    have g1 := e13 _ _ h1
    exact r_mk (ea_cons (ix g1 rfl rfl) (ea_cons (ix g1 rfl rfl) ea_nil)) (ea_cons (ix g1 rfl rfl) (ea_cons (ix g1 rfl rfl) ea_nil)) rfl fun H4 x dx e4 hx hdx => ⟨x, dx, nm, mo, ti, tg, rfl, rfl, upd_same, hok.1, hok.2, fun H5 e5 hm => fin hx hdx (e13.trans e4) e5 hm⟩
  | lnk nm mo ti tg =>
    refine q_when (b := false) (et_is (et_eq (x := .str "link") (y := .str "file") (ix h1 rfl rfl) ev_c rfl) (ne (by decide +kernel))) (fun h => nomatch h) fun _ H1 e1 => ?_
    refine q_when (b := false) (et_is (et_eq (x := .str "link") (y := .str "directory") (ix (e1 _ _ h1) rfl rfl) ev_c rfl) (ne (by decide +kernel))) (fun h => nomatch h) fun _ H2 e2 => ?_
    refine q_when (b := false) (et_is (et_eq (x := .str "link") (y := .str "symlink") (ix (e2 _ _ (e1 _ _ h1)) rfl rfl) ev_c rfl) (ne (by decide +kernel))) (fun h => nomatch h) fun _ H3 e3 => ?_
    have e13 := (e1.trans e2).trans e3
    refine q_when (b := true) (et_is (et_eq (x := .str "link") (y := .str "link") (ix (e13 _ _ h1) rfl rfl) ev_c rfl) (by simp)) (fun _ H4 e4 => ?_) fun h => nomatch h
    have e14 := e13.trans e4
    have g1 := e14 _ _ h1
    exact r_mk (ea_cons (ix g1 rfl rfl) (ea_cons (ix g1 rfl rfl) ea_nil)) (ea_cons (ix g1 rfl rfl) (ea_cons (ix g1 rfl rfl) ea_nil)) rfl fun H5 x dx e5 hx hdx => ⟨x, dx, nm, mo, ti, tg, rfl, rfl, upd_same, hok.1, hok.2, fun H6 e6 hm => fin hx hdx (e14.trans e5) e6 hm⟩
  | spa nm mo ti k x y =>
    obtain ⟨pl, ps, h1, h2, h3⟩ := h1
    refine q_when (b := false) (et_is (et_eq (x := .str "sparse") (y := .str "file") (ix h1 rfl rfl) ev_c rfl) (ne (by decide +kernel))) (fun h => nomatch h) fun _ H1 e1 => ?_
    refine q_when (b := false) (et_is (et_eq (x := .str "sparse") (y := .str "directory") (ix (e1 _ _ h1) rfl rfl) ev_c rfl) (ne (by decide +kernel))) (fun h => nomatch h) fun _ H2 e2 => ?_
    refine q_when (b := false) (et_is (et_eq (x := .str "sparse") (y := .str "symlink") (ix (e2 _ _ (e1 _ _ h1)) rfl rfl) ev_c rfl) (ne (by decide +kernel))) (fun h => nomatch h) fun _ H3 e3 => ?_
    have e13 := (e1.trans e2).trans e3
    refine q_when (b := false) (et_is (et_eq (x := .str "sparse") (y := .str "link") (ix (e13 _ _ h1) rfl rfl) ev_c rfl) (ne (by decide +kernel))) (fun h => nomatch h) fun _ H4 e4 => ?_
    have e14 := e13.trans e4
    have hpl := paired_len h3
    have hpk := pcs_len (x := x) (y := y) hok.2
    have hk2 := hok.2
    refine q_asgP (EvN.p (ep_lc (fun i v H' => ((pcs k x y)[i]?).elim False fun p => PcAt H' v p) ?_ (ei_list (K := K) (ix (i := 5) (e14 _ _ h1) rfl rfl) (sq_of (e14 _ _ h2))) (by omega) ex_at fun i z H5 H6 hi e hy => ?_)) fun v H5 e5 hv => ?_
    · intro i v H H' e h
      cases hh : (pcs k x y)[i]? with
      | none => rw [hh] at h; exact h.elim
      | some p =>
        rw [hh] at h
        obtain ⟨b, rfl, hb⟩ := h
        exact ⟨b, rfl, e _ _ hb fun xs z => nomatch z⟩
    · obtain ⟨rfl, hy⟩ := hy
      obtain ⟨p1, hp1, b, nl, rfl, hb, hnl⟩ := paired_get h3 hy
      have e' := e14.trans e
      refine turn_pair (e' _ _ hb) rfl ?_
      refine (EvU.p (eu_tup (ea_cons (ev_var rfl) (ea_cons (ev_callV (z := vB p1.2) (ea_cons (ev_var rfl) ea_nil) rfl fun H7 e7 => ⟨nl, p1.2, rfl, e7 _ _ (e' _ _ hnl), ?_, rfl⟩) ea_nil)) (by show 2 ≤ 100000; decide))).imp fun v H7 e7 hv => ?_
      · rw [hp1]
        obtain ⟨t, rfl, ht⟩ := hv
        exact ⟨t, rfl, ht⟩
      · exact (pcs_ok k hk2 x y).1 p1 (List.mem_of_getElem? hp1) |>.2
    obtain ⟨pp, ys, rfl, _, hpp, hI⟩ := hv
    have hps : PcsAt H5 ys (pcs k x y) := by
      refine paired_of (by rw [hI.1, hpl]) fun i v p hv hp => ?_
      have h5 : ((pcs k x y)[i]?).elim False fun p => PcAt H5 v p := hI.2 i v hv
      rw [hp] at h5
      exact h5
    have e15 := e14.trans e5
    have g1 := e15 _ _ h1
    have hyl : ys.length = k := by rw [paired_len hps, hpk]
    have mkS : ∀ {H6 : Hp} {t : TA} {σ' : L2.St}, Ex H H6 → PcsAt H6 ys (pcs k x y) → EvA t σ' H6 ([vS nm, .int 9] ++ ys) → σ'[0]? = some (some (.ref q0)) → tRet (tMakeI a.cSparse kwM.length (spSparse a) t (tCons (tOp (rIx K) (tVar 0) (tC (.int 2))) (tCons (tOp (rIx K) (tVar 0) (tC (.int 3))) tNil))) { nx := fun _ H' => Q .non H', rt := Q } σ' H6 := fun e hps ht hv =>
      r_mk ht (ea_cons (ix (i := 2) (e _ _ h1) hv rfl) (ea_cons (ix (i := 3) (e _ _ h1) hv rfl) ea_nil)) rfl fun H7 x' dx e7 hx hdx => ⟨x', dx, nm, mo, ti, k, x, y, ys, rfl, rfl, upd_same, hps.mono (a := a) (ExT.of fun p o hp => by
        have hp7 := e7 p o hp
        rw [upd_ne (fun z => by rw [z, hx] at hp7; cases hp7), upd_ne (fun z => by rw [z, hdx] at hp7; cases hp7)]
        exact hp7), hok.1, hk2, fun H8 e8 hm => fin hx hdx (e.trans e7) e8 hm⟩
    have psm : ∀ {H6 : Hp}, Ex H5 H6 → PcsAt H6 ys (pcs k x y) := fun e => hps.mono (a := a) (ExT.of e)
    have lt : ∀ (n : Nat) {H6 : Hp} {σ' : L2.St}, Ex H5 H6 → σ'[1]? = some (some (.ref pp)) → EvT (tTest (tOp rEq (tCB (rLen K) (tCons (tVar 1) tNil)) (tC (vN n)))) σ' H6 (decide (ys.length = n)) := fun n H6 σ' e hv => et_is (et_eq (x := vN ys.length) (y := vN n) (ev_lenL (ev_var hv) (sq_of (e _ _ hpp))) ev_c rfl) (by
      by_cases h : ys.length = n
      · rw [h]; simp
      · rw [decide_eq_false h, decide_eq_false fun z => h (by injection z with z; omega)])
    have iy : ∀ {H1 : Hp} {σ' : L2.St} {v : V} {i : Int}, Ex H5 H1 → σ'[1]? = some (some (.ref pp)) → atI ys i = some v → Ev (tOp (rIx K) (tVar 1) (tC (.int i))) σ' H1 v := fun e hv hx => ev_op (ev_var hv) ev_c (rv_ixl (sq_of (e _ _ hpp)) hx)
    cases ys with
    | nil =>
      refine q_when (b := true) (et_is (lt 0 (Ex.refl H5) rfl) rfl) (fun _ H6 e6 => ?_) fun h => nomatch h
      exact mkS (e15.trans e6) (psm e6) (ea_cons (ix (i := 1) (e6 _ _ g1) rfl rfl) (ea_cons (ix (i := 4) (e6 _ _ g1) rfl rfl) ea_nil)) rfl
    | cons y0 ys => cases ys with
    | nil =>
      refine q_when (b := false) (et_is (lt 0 (Ex.refl H5) rfl) rfl) (fun h => nomatch h) fun _ H6 e6 => ?_
      refine q_when (b := true) (et_is (lt 1 e6 rfl) rfl) (fun _ H7 e7 => ?_) fun h => nomatch h
      have e67 := e6.trans e7
      exact mkS (e15.trans e67) (psm e67) (ea_cons (ix (i := 1) (e67 _ _ g1) rfl rfl) (ea_cons (ix (i := 4) (e67 _ _ g1) rfl rfl) (ea_cons (iy (i := 0) e67 rfl rfl) ea_nil))) rfl
    | cons y1 ys => cases ys with
    | nil =>
      refine q_when (b := false) (et_is (lt 0 (Ex.refl H5) rfl) rfl) (fun h => nomatch h) fun _ H6 e6 => ?_
      refine q_when (b := false) (et_is (lt 1 e6 rfl) rfl) (fun h => nomatch h) fun _ H7 e7 => ?_
      have e67 := e6.trans e7
      refine q_when (b := true) (et_is (lt 2 e67 rfl) rfl) (fun _ H8 e8 => ?_) fun h => nomatch h
      have e68 := e67.trans e8
      exact mkS (e15.trans e68) (psm e68) (ea_cons (ix (i := 1) (e68 _ _ g1) rfl rfl) (ea_cons (ix (i := 4) (e68 _ _ g1) rfl rfl) (ea_cons (iy (i := 0) e68 rfl rfl) (ea_cons (iy (i := 1) e68 rfl rfl) ea_nil)))) rfl
    | cons y2 ys => exact absurd hk2 (by rw [← hyl]; simp)
end
end Tl
end

section
set_option Elab.async false
set_option linter.all false
set_option maxRecDepth 100000
set_option maxHeartbeats 2000000
/-! The law's plain lists. -/
namespace Tl
open PySem PySem.Spec PyProof.Rows L2 Evl
open Tar (By)
open C8 (Cal Met Mak pe_c pe_mk pe_mt pe_mt0 pe_gc fnScope_by)
/-- the heap without the list found and the source -/
def hid (fo l : Addr) (H : Hp) : Hp := fun b => if b = fo ∨ b = l then none else H b
theorem hid_ex {fo l : Addr} {H H' : Hp} (k : ∀ b o, b ≠ fo → b ≠ l → H b = some o → H' b = some o) : Ex (hid fo l H) (hid fo l H') := fun b o h => by
  unfold hid at h ⊢
  by_cases c : b = fo ∨ b = l
  · rw [if_pos c] at h
    cases h
  · rw [if_neg c] at h ⊢
    exact k b o (fun z => c (.inl z)) (fun z => c (.inr z)) h
theorem hid_at {fo l b : Addr} {H : Hp} {o : HO} (h1 : b ≠ fo) (h2 : b ≠ l) (h : H b = some o) : hid fo l H b = some o := by
  unfold hid
  rw [if_neg fun z => z.elim h1 h2]
  exact h
theorem hid_in {fo l : Addr} {H : Hp} : Ex (hid fo l H) H := fun b o h => by
  unfold hid at h
  by_cases c : b = fo ∨ b = l
  · rw [if_pos c] at h
    cases h
  · rw [if_neg c] at h
    exact h
theorem KE.hid {fo l : Addr} {H H' : Hp} (k : KE l H H') : Ex (hid fo l H) (hid fo l H') := hid_ex fun b o _ n h => k.1 b o n h
theorem Src.ne {l p : Addr} {H : Hp} (s : Src H l) (h : H p = none) : p ≠ l := fun z => by
  obtain ⟨_, _, _, e, _⟩ := s
  rw [z, e] at h
  cases h
theorem cut_take {xs : List V} {r : Nat} : cutV xs none (some (r : Int)) = xs.take r := by
  unfold cutV
  rw [HT.sIx_nat]
  show (xs.drop 0).take (min r xs.length - 0) = xs.take r
  rw [List.drop_zero, Nat.sub_zero]
  rcases Nat.le_total r xs.length with h | h
  · rw [Nat.min_eq_left h]
  · rw [Nat.min_eq_right h, List.take_length, List.take_of_length_le h]
section
variable {l : Addr} {σ : L2.St} {H : Hp} {ta te td : TE} {tl : TA} {P : V → Hp → Prop} {Pa : List V → Hp → Prop} {K : PySem.W.Frag}
theorem es_tupF (h : EvAS l tl σ H Pa) (hz : ∀ vs H1, Pa vs H1 → vs.length ≤ 100000) (hm : ∀ vs H1 H2, KE l H1 H2 → Pa vs H1 → Pa vs H2) : EvS l (tTup tl) σ H (fun v H' => ∃ p vs, v = .ref p ∧ H p = none ∧ H' p = some (.tup vs) ∧ Pa vs H') := fun H1 e Q q =>
  h H1 e _ fun vs H2 e2 p => ⟨sz_of (hz vs H2 p), fun r hr => have k := KE.of e2.2 (Ex.new (o := .tup vs) hr); q _ _ (e2.trans k) ⟨r, vs, rfl, (e.trans e2).fresh hr, upd_same, hm vs _ _ k p⟩⟩
theorem es_lstF (h : EvAS l tl σ H Pa) (hz : ∀ vs H1, Pa vs H1 → vs.length ≤ 100000) (hm : ∀ vs H1 H2, KE l H1 H2 → Pa vs H1 → Pa vs H2) : EvS l (tLst tl) σ H (fun v H' => ∃ p vs, v = .ref p ∧ H p = none ∧ H' p = some (.lst vs) ∧ Pa vs H') := fun H1 e Q q =>
  h H1 e _ fun vs H2 e2 p => ⟨sz_of (hz vs H2 p), fun r hr => have k := KE.of e2.2 (Ex.new (o := .lst vs) hr); q _ _ (e2.trans k) ⟨r, vs, rfl, (e.trans e2).fresh hr, upd_same, hm vs _ _ k p⟩⟩
theorem es_slF {n : Nat} {Pl : List V → Hp → Prop} (s : Src H l) (h : EvS l te σ H (fun v H' => ∃ p xs, v = .ref p ∧ H p = none ∧ H' p = some (.lst xs) ∧ Pl xs H')) (hd : ∀ H1, KE l H H1 → EvS l td σ H1 (fun v _ => ∃ r, r < n ∧ v = vN r)) (hm : ∀ vs H1 H2, KE l H1 H2 → Pl vs H1 → Pl vs H2) :
    EvS l (tSl (rSlL K) te tNoPart (tPart td)) σ H (fun v H' => ∃ p xs r, v = .ref p ∧ H p = none ∧ r < n ∧ H' p = some (.lst (xs.take r)) ∧ Pl xs H') := fun H1 e Q q =>
  h H1 e _ fun v H2 e2 p => by
    obtain ⟨p, xs, rfl, hp, hx, hl⟩ := p
    refine hd H2 (e.trans e2) H2 (KE.refl e2.2) _ fun v H3 e3 pv => ?_
    obtain ⟨r, hr, rfl⟩ := pv
    refine ⟨(r : Int), rfl, p, xs, rfl, sq_of (e3.1 _ _ (s.ne hp) hx), fun p2 hp2 => ?_⟩
    rw [cut_take]
    have k := KE.of e3.2 (Ex.new (o := .lst (xs.take r)) hp2)
    exact q _ _ ((e2.trans e3).trans k) ⟨p2, xs, r, rfl, ((e.trans e2).trans e3).fresh hp2, hr, upd_same, hm _ _ _ (e3.trans k) hl⟩
theorem es_pickC {n : Nat} {Pv : V → Prop} (cs : List V) (h : ∀ H1, KE l H H1 → EvA tl σ H1 cs) (hP : ∀ v ∈ cs, Pv v) (hl : cs.length = n) (hd : ∀ H1, KE l H H1 → EvS l te σ H1 (fun v _ => ∃ r, r < n ∧ v = vN r)) (hn : n ≤ 100000) : EvS l (tOp (rIx K) (tLst tl) te) σ H (fun v _ => Pv v) :=
  es_pick (n := n) (fun H1 e Q q => (h H1 e) H1 (Ex.refl H1) _ fun H2 e2 => q cs H2 (KE.of e.2 e2) ⟨hl, hP⟩) hd hn
theorem es_rn {E : XK} {i : Nat} {Pn : Nat → Prop} (hi : σ[i]? = some (some (.ref l))) (h : EvS l te σ H (fun v _ => ∃ r, Pn r ∧ r ≤ 8 ∧ v = vN r)) : EvS l (tCall spRN [] E (tCons (tVar i) (tCons te tNil))) σ H (fun v H' => ∃ p d, v = .ref p ∧ H p = none ∧ H' p = some (.lst (numsV d)) ∧ Pn d.length ∧ d.length ≤ 8) := fun H1 e Q q =>
  ⟨_, hi, h H1 e _ fun v H2 e2 p => by
    obtain ⟨r, h1, h2, rfl⟩ := p
    exact ⟨l, r, rfl, e2.2, h2, fun p d H' hd hp k hx => q _ H' (e2.trans k) ⟨p, d, rfl, (e.trans e2).fresh hp, hx, by rw [hd]; exact h1, by rw [hd]; exact h2⟩⟩⟩
theorem es_st {E : XK} {i : Nat} (hi : σ[i]? = some (some (.ref l))) : EvS l (tCall spSt [] E (tCons (tVar i) tNil)) σ H (fun v H' => ∃ p vs, v = .ref p ∧ H' p = some (.tup vs) ∧ ∃ mo ti : Nat, mo ≤ 4095 ∧ ti ≤ 8589934591 ∧ vs = [vN mo, vN ti]) := fun H1 e Q q =>
  ⟨_, hi, l, rfl, e.2, fun p mo ti H' h1 h2 k h => q _ H' k ⟨p, _, rfl, h, mo, ti, h1, h2, rfl⟩⟩
theorem s_appS {D : Ends} {o : Addr} {xs : List V} {i : Nat} (hl : H o = some (.lst xs)) (ho : o ≠ l) (ha : σ[i]? = some (some (.ref o))) (s : Src H l) (h : EvS l te σ H P) (hz : xs.length < 100000) (k : ∀ x H1, KE l H H1 → P x H1 → D.nx σ (upd H1 o (.lst (xs ++ [x])))) : tDrop (tBM K "list" rAppend (tVar i) (tCons te tNil)) D σ H :=
  ⟨_, ha, Or.inl ⟨rfl, xs, sq_of hl⟩, h H (KE.refl s) _ fun x H1 e p => ⟨o, xs, x, rfl, rfl, e.1 o _ ho hl, sz_lt hz, k x H1 e p⟩⟩
theorem q_forRS {D : Ends} {tz tu : TS} {g : TG} {n : Nat} (h : EvS l te σ H (fun v _ => ∃ r, r < n ∧ v = vN r)) (s : Src H l) (hn : n ≤ 100000) (Pv : Nat → L2.St → Hp → Prop) (h0 : ∀ H1, KE l H H1 → Pv 0 σ H1)
    (step : ∀ (i : Nat) (σ' : L2.St) (H' : Hp), i + 1 < n → Pv i σ' H' → g (vN i) σ' H' fun σ2 H2 => tu { nx := Pv (i + 1), rt := D.rt, bk := tz D, ct := Pv (i + 1) } σ2 H2) (fin : ∀ r σ' H', r < n → Pv r σ' H' → tz D σ' H') : tSeq (tFor (iRng1 (tCons te tNil)) g tu) tz D σ H :=
  h H (KE.refl s) _ fun v H1 e1 p => by
    obtain ⟨r, hr, rfl⟩ := p
    exact ⟨(r : Int), rfl, by omega, by omega, for_it (D := { D with nx := tz D }) (n := r) walk_range Pv (h0 H1 e1) (fun _ _ _ _ _ => trivial) (fun i x σ' H' H'' hi p y => by
      obtain ⟨rfl, rfl⟩ := y
      have h := step i σ' H'' (by omega) p
      show g (V.int (0 + (i : Int))) σ' H'' _
      rw [Int.zero_add]
      exact h) fun σ' H' p => fin r σ' H' hr p⟩
end
theorem PlPc.mono {H H' : Hp} (e : Ex H H') {q : V} {p : Nat × By} (h : PlPc H q p) : PlPc H' q p := let ⟨b, nl, z1, z2, z3⟩ := h; ⟨b, nl, z1, e _ _ z2, e _ _ z3⟩
theorem paired_take {α β : Type} {R : α → β → Prop} : ∀ {xs : List α} {ys : List β} (n : Nat), Paired R xs ys → Paired R (xs.take n) (ys.take n)
  | _, _, 0, _ => .nil
  | _, _, _ + 1, .nil => .nil
  | _, _, n + 1, .cons r t => .cons r (paired_take n t)
/-- the loop's invariant -/
def PlI (l fo : Addr) (n : Nat) (H : Hp) (i : Nat) (σ' : L2.St) (H' : Hp) : Prop := (∃ u3 u4 u5 u6 u7 u8, σ' = [some (.ref l), some (vN n), some (.ref fo), u3, u4, u5, u6, u7, u8]) ∧ KE l H H' ∧ ∃ xs ms, H' fo = some (.lst xs) ∧ Paired (fun v m => ∃ q, v = .ref q ∧ OneAt (hid fo l H') q m) xs ms ∧ (∀ m ∈ ms, m.Ok) ∧ ms.length = i
section
variable {P : Program} {w : World} {K : PySem.W.Frag} {mg : Str → Option Value} {base : Heap} {a : Ad}
abbrev nm_law_plain_list : List Str := ["_law_source_here", "_law_most", "_law_found", "_law_k", "_law_kind", "_law_label", "_law_bits", "_law_stamp", "_law_one"]
theorem sc_law_plain_list : FnScope nm_law_plain_list ["_law_source_here", "_law_most"] (defScope s_law_plain_list) := fnScope_by (by decide +kernel)
/-- the plain lists of a law's list -/
def OnesAt (H : Hp) : List V → List Mem → Prop := Paired fun v m => ∃ q, v = .ref q ∧ OneAt H q m
abbrev spPl : Sp := fun vs H Q _ => ∃ (l : Addr) (n : Nat), vs = [.ref l, vN n] ∧ Src H l ∧ n ≤ 6 ∧ ∀ p xs ms H', H p = none → KE l H H' → H' p = some (.lst xs) → OnesAt H' xs ms → (∀ m ∈ ms, m.Ok) → ms.length ≤ n → Q (.ref p) H'
theorem ok_law_plain_list (T : Txt K mg a) (F : DB K mg "_law_plain_list" s_law_plain_list ["_law_source_here", "_law_most"]) (c_law_draw : Cal P w K mg base 1 "_law_draw" spDr []) (c_law_stamps : Cal P w K mg base 2 "_law_stamps" spSt []) (c_law_random_numbers : Cal P w K mg base 2 "_law_random_numbers" spRN []) :
    Cal P w K mg base 3 "_law_plain_list" spPl [] := by
  refine cal_of F sc_law_plain_list (fun vs _ _ _ h => by obtain ⟨l, k, rfl, _⟩ := h; rfl) fun f cdv A outer s H vs Q E hr h => ⟨_, (pss_cons (ps_set (i := 2) sc_law_plain_list.nd rfl (Or.inl rfl) (pe_lst pa_nil))
    (pss_cons (ps_for PassesOwn.never rfl (pi_range1 (by rfl) T.b_range (pa_cons (C8.pe_c c_law_draw hr (by decide) rfl (pa_cons (pv 0) (pa_cons (pe_op op_add (pv 1) pe_int) pa_nil))) pa_nil)) (pg_name (i := 3) sc_law_plain_list.nd rfl (Or.inl rfl)) (pss_cons (ps_set (i := 4) sc_law_plain_list.nd rfl (Or.inl rfl) (pe_ix ix_seq (pe_lst (pa_cons pe_str (pa_cons pe_str (pa_cons pe_str (pa_cons pe_str (pa_cons pe_str (pa_cons pe_str (pa_cons pe_str pa_nil)))))))) (C8.pe_c c_law_draw hr (by decide) rfl (pa_cons (pv 0) (pa_cons pe_int pa_nil))) (fun _ _ => rfl)))
    (pss_cons (ps_set (i := 5) sc_law_plain_list.nd rfl (Or.inl rfl) (pe_ix ix_seq (pe_lst (pa_cons pe_str (pa_cons pe_str (pa_cons pe_str (pa_cons pe_str (pa_cons pe_str (pa_cons pe_str (pa_cons pe_str (pa_cons pe_str pa_nil))))))))) (C8.pe_c c_law_draw hr (by decide) rfl (pa_cons (pv 0) (pa_cons pe_int pa_nil))) (fun _ _ => rfl)))
    (pss_cons (ps_asg (C8.pe_c c_law_stamps hr (by decide) rfl (pa_cons (pv 0) pa_nil)) (pg_tup rfl (pgs_cons (pg_name (i := 6) sc_law_plain_list.nd rfl (Or.inl rfl)) (pgs_cons (pg_name (i := 7) sc_law_plain_list.nd rfl (Or.inl rfl)) pgs_nil))))
    (pss_cons (ps_set (i := 8) sc_law_plain_list.nd rfl (Or.inl rfl) (pe_lst (pa_cons (pv 4) (pa_cons (pv 5) (pa_cons (pv 6) (pa_cons (pv 7) pa_nil))))))
    (pss_cons (ps_if (pt_cmpR op_eq (pv 4) pe_str (nomark _)) (pss_one (ps_expr (pe_bm PySem.F.plainAttrs_list PySem.F.slot_list_append PySem.F.type_list_append mt_append (pv 8) (pa_cons (C8.pe_c c_law_random_numbers hr (by decide) rfl (pa_cons (pv 0) (pa_cons (C8.pe_c c_law_draw hr (by decide) rfl (pa_cons (pv 0) (pa_cons pe_int pa_nil))) pa_nil))) pa_nil)))) pss_nil)
    (pss_cons (ps_if (pt_cmpR op_eq (pv 4) pe_str (nomark _)) (pss_one (ps_set (i := 8) sc_law_plain_list.nd rfl (Or.inl rfl) (pe_op op_cat (pv 8) (pe_lst (pa_cons pe_int (pa_cons (pe_slice sl_list (pe_lst (pa_cons (pe_tup (pa_cons pe_int (pa_cons (C8.pe_c c_law_random_numbers hr (by decide) rfl (pa_cons (pv 0) (pa_cons pe_int pa_nil))) pa_nil))) (pa_cons (pe_tup (pa_cons pe_int (pa_cons (pe_lst (pa_cons pe_int pa_nil)) pa_nil))) pa_nil))) po_none (po_some (C8.pe_c c_law_draw hr (by decide) rfl (pa_cons (pv 0) (pa_cons pe_int pa_nil))))) pa_nil)))))) pss_nil)
    (pss_cons (ps_if (pt_cmpR op_eq (pv 4) pe_str (nomark _)) (pss_one (ps_expr (pe_bm PySem.F.plainAttrs_list PySem.F.slot_list_append PySem.F.type_list_append mt_append (pv 8) (pa_cons (pe_ix ix_seq (pe_lst (pa_cons pe_str (pa_cons pe_str (pa_cons pe_str (pa_cons pe_str (pa_cons pe_str pa_nil)))))) (C8.pe_c c_law_draw hr (by decide) rfl (pa_cons (pv 0) (pa_cons pe_int pa_nil))) (fun _ _ => rfl)) pa_nil)))) pss_nil)
    (pss_cons (ps_if (pt_cmpR op_eq (pv 4) pe_str (nomark _)) (pss_one (ps_expr (pe_bm PySem.F.plainAttrs_list PySem.F.slot_list_append PySem.F.type_list_append mt_append (pv 8) (pa_cons (pe_ix ix_seq (pe_lst (pa_cons pe_str (pa_cons pe_str (pa_cons pe_str (pa_cons pe_str (pa_cons pe_str pa_nil)))))) (C8.pe_c c_law_draw hr (by decide) rfl (pa_cons (pv 0) (pa_cons pe_int pa_nil))) (fun _ _ => rfl)) pa_nil)))) pss_nil)
    (pss_one (ps_expr (pe_bm PySem.F.plainAttrs_list PySem.F.slot_list_append PySem.F.type_list_append mt_append (pv 2) (pa_cons (pv 8) pa_nil)))))))))))))
    (pss_one (ps_ret (pv 2))))), ?_⟩
  obtain ⟨l, n, rfl, hs, hn, q⟩ := h
  refine q_asgL (el_lst ea_nil (by decide)) fun fo H1 hfo e1 h1 => ?_
  have s1 : Src H1 l := (KE.of hs e1).2
  have fl : fo ≠ l := hs.ne hfo
  refine q_forRS (n := n + 1) (es_draw rfl (by omega) (by have := Nat.log2_le_self (n + 1); omega) fun H2 _ => ev_is (ev_I (g := fun i j => i + j) (ev_var rfl) ev_c) rfl) s1 (by omega) (PlI l fo n H) ?_ ?_ ?_
  · exact fun H2 k2 => ⟨⟨_, _, _, _, _, _, rfl⟩, (KE.of hs e1).trans k2, [], [], k2.1 _ _ fl h1, .nil, fun m h => (List.not_mem_nil h).elim, rfl⟩
  · rintro i σ' Hb hi ⟨⟨u3, u4, u5, u6, u7, u8, rfl⟩, kb, xs, ms, hb, hx, hok, hlen⟩
    have hxl := paired_len hx
    have fin : ∀ {D : Ends} {H' : Hp} {q : Addr} {m : Mem} {u3 u4 u5 u6 u7 : Option V}, (∀ σ H', PlI l fo n H (i + 1) σ H' → D.nx σ H') → KE l Hb H' → OneAt (hid fo l H') q m → m.Ok → tDrop (tBM K "list" rAppend (tVar 2) (tCons (tVar 8) tNil)) D [some (.ref l), some (vN n), some (.ref fo), u3, u4, u5, u6, u7, some (.ref q)] H' := fun {D H' q m u3 u4 u5 u6 u7} hD k ho hm => by
      have hf := k.1 _ _ fl hb
      have ex : Ex (hid fo l H') (hid fo l (upd H' fo (.lst (xs ++ [.ref q])))) := hid_ex fun b o n1 _ h => by rw [upd_ne n1]; exact h
      refine ⟨.ref fo, rfl, Or.inl ⟨rfl, xs, sq_of hf⟩, .ref q, rfl, fo, xs, .ref q, rfl, rfl, hf, sz_lt (by omega), hD _ _ ⟨⟨_, _, _, _, _, _, rfl⟩, ⟨fun b o nb hbo => ?_, ?_⟩, xs ++ [.ref q], ms ++ [m], upd_same, paired_app (L2.Paired.mapP hx fun _ _ ⟨q, z1, z2⟩ => ⟨q, z1, z2.mono (k.hid.trans ex)⟩) (.cons ⟨q, rfl, ho.mono ex⟩ .nil), fun m' h' => ?_, by rw [List.length_append, hlen]; rfl⟩⟩
      · rw [upd_ne (fun z => by rw [z, hfo] at hbo; cases hbo)]
        exact (kb.trans k).1 b o nb hbo
      · obtain ⟨x, y, z, g, r⟩ := k.2
        exact ⟨x, y, z, by rw [upd_ne fl.symm]; exact g, r⟩
      · rcases List.mem_append.mp h' with h' | h'
        · exact hok m' h'
        · rw [List.mem_singleton.mp h']
          exact hm
    have ne : ∀ {s t : Str}, (s == t) = false → decide (V.str s = V.str t) = false := fun h => decide_eq_false fun z => by
      cases z
      simp at h
    have tk : ∀ {σ' : L2.St} {H' : Hp} (s t : Str), σ'[4]? = some (some (.str s)) → EvT (tTest (tOp rEq (tVar 4) (tC (.str t)))) σ' H' (decide (V.str s = V.str t)) := fun s t h => et_eq (ev_var h) ev_c rfl
    refine q_asgS (P := fun v _ => v = .str "file" ∨ v = .str "sparse" ∨ v = .str "directory" ∨ v = .str "symlink" ∨ v = .str "link") (es_pickC (n := 7) [.str "file", .str "sparse", .str "directory", .str "symlink", .str "link", .str "file", .str "directory"] (fun H1 _ => ea_cons ev_c (ea_cons ev_c (ea_cons ev_c (ea_cons ev_c (ea_cons ev_c (ea_cons ev_c (ea_cons ev_c ea_nil))))))) (fun v hv => ?_) rfl (fun H1 _ => es_draw rfl (by decide) (by decide +kernel) fun _ _ => ev_c) (by decide)) kb.2 fun kv H2 k2 hkv => ?_
    · simp only [List.mem_cons, List.not_mem_nil, or_false] at hv
      rcases hv with rfl | rfl | rfl | rfl | rfl | rfl | rfl
      · exact .inl rfl
      · exact .inr (.inl rfl)
      · exact .inr (.inr (.inl rfl))
      · exact .inr (.inr (.inr (.inl rfl)))
      · exact .inr (.inr (.inr (.inr rfl)))
      · exact .inl rfl
      · exact .inr (.inr (.inl rfl))
    refine q_asgS (P := fun v _ => ∃ nm ∈ labels, v = vS nm) (es_pickC (n := 8) ([("a" : Str), "b", "d", "d/a", "d/b", "d/e", "d/e/c", "s"].map V.str) (fun H1 _ => ea_cons ev_c (ea_cons ev_c (ea_cons ev_c (ea_cons ev_c (ea_cons ev_c (ea_cons ev_c (ea_cons ev_c (ea_cons ev_c ea_nil)))))))) (fun v hv => ?_) rfl (fun H1 _ => es_draw rfl (by decide) (by decide +kernel) fun _ _ => ev_c) (by decide)) k2.2 fun nv H3 k3 hnv => ?_
    · obtain ⟨s, hs, rfl⟩ := List.mem_map.mp hv
      rw [labels_str] at hs
      obtain ⟨nm, h, rfl⟩ := List.mem_map.mp hs
      exact ⟨nm, h, rfl⟩
    obtain ⟨nm, hnm, rfl⟩ := hnv
    refine q_unpS (Pa := fun vs => ∃ mo ti : Nat, mo ≤ 4095 ∧ ti ≤ 8589934591 ∧ vs = [vN mo, vN ti]) (es_st rfl) k3.2 fun p vs H4 k4 hp hv => ?_
    obtain ⟨mo, ti, hmo, hti, rfl⟩ := hv
    refine ⟨p, _, rfl, st_of hp, rfl, _, _, rfl, _, _, rfl, rfl, ?_⟩
    refine q_asgL (el_lst (ea_cons (ev_var rfl) (ea_cons (ev_var rfl) (ea_cons (ev_var rfl) (ea_cons (ev_var rfl) ea_nil)))) (by show 4 ≤ 100000; decide)) fun o1 H5 ho1 e5 h5 => ?_
    have kb4 := (k2.trans k3).trans k4
    have kb5 := kb4.trans (KE.of kb4.2 e5)
    have hf4 := kb4.1 _ _ fl hb
    have o1f : o1 ≠ fo := fun z => by rw [z, hf4] at ho1; cases ho1
    have o1l : o1 ≠ l := kb4.2.ne ho1
    have hB : Mem.Base nm mo ti := ⟨hnm, hmo, hti⟩
    -- the relation through a change of the fresh list
    have kup : ∀ {H' : Hp} {o : HO}, KE l H5 H' → KE l Hb (upd H' o1 o) := fun {H' o} k => ⟨fun b u nb hbu => by
      have h4 := kb4.1 b u nb hbu
      rw [upd_ne (fun z => by rw [z, ho1] at h4; cases h4)]
      exact k.1 b u nb (e5 _ _ h4), let ⟨x, y, z, g, r⟩ := k.2; ⟨x, y, z, by rw [upd_ne o1l.symm]; exact g, r⟩⟩
    rcases hkv with rfl | rfl | rfl | rfl | rfl
    · refine q_when (b := true) (et_is (tk "file" "file" rfl) (by simp)) (fun _ H6 e6 => ?_) fun h => nomatch h
      have k56 := KE.of kb5.2 e6
      refine s_appS (e6 _ _ h5) o1l rfl k56.2 (es_rn (Pn := fun _ => True) rfl ((es_draw (k := 9) rfl (by decide) (by decide +kernel) fun _ _ => ev_c).imp fun v _ _ ⟨r, h1, h2⟩ => ⟨r, trivial, by omega, h2⟩)) (by show 4 < 100000; decide) fun v H7 k7 hv => ?_
      obtain ⟨pd, d, rfl, hpd, hd, _, hd8⟩ := hv
      have k57 := k56.trans k7
      have pdo : pd ≠ o1 := fun z => by rw [z, e6 _ _ h5] at hpd; cases hpd
      have pdf : pd ≠ fo := fun z => by rw [z, e6 _ _ (e5 _ _ hf4)] at hpd; cases hpd
      have pdl : pd ≠ l := k56.2.ne hpd
      refine q_when (b := false) (et_is (tk "file" "sparse" rfl) (ne (by decide +kernel))) (fun h => nomatch h) fun _ H8 e8 => ?_
      refine q_when (b := false) (et_is (tk "file" "symlink" rfl) (ne (by decide +kernel))) (fun h => nomatch h) fun _ H9 e9 => ?_
      refine q_when (b := false) (et_is (tk "file" "link" rfl) (ne (by decide +kernel))) (fun h => nomatch h) fun _ H10 e10 => ?_
      have e80 := (e8.trans e9).trans e10
      have kk := kup (o := .lst ([.str "file", vS nm, vN mo, vN ti] ++ [.ref pd])) k57
      refine fin (m := .fil nm mo ti d) (fun _ _ h => h) (kk.trans (KE.of kk.2 e80)) ⟨pd, hid_at o1f o1l (e80 _ _ upd_same), hid_at pdf pdl (e80 _ _ (by rw [upd_ne pdo]; exact hd))⟩ ⟨hB, hd8⟩
    · refine q_when (b := false) (et_is (tk "sparse" "file" rfl) (ne (by decide +kernel))) (fun h => nomatch h) fun _ H6 e6 => ?_
      refine q_when (b := true) (et_is (tk "sparse" "sparse" rfl) (by simp)) (fun _ H7 e7 => ?_) fun h => nomatch h
      have e67 := e6.trans e7
      have k57 := KE.of kb5.2 e67
      have hf7 : H7 fo = some (.lst xs) := e67 _ _ (e5 _ _ hf4)
      generalize hσ : ([some (.ref l), some (vN n), some (.ref fo), some (vN i), some (.str "sparse"), some (vS nm), some (vN mo), some (vN ti), some (.ref o1)] : L2.St) = σ7
      have hσ0 : σ7[0]? = some (some (.ref l)) := by rw [← hσ]; rfl
      have nf : ∀ {H8 : Hp} {b : Addr}, KE l H7 H8 → H8 b = none → b ≠ fo := fun k h z => by rw [z, k.1 _ _ fl hf7] at h; cases h
      have nl : ∀ {H8 : Hp} {b : Addr}, KE l H7 H8 → H8 b = none → b ≠ l := fun k h => k.2.ne h
      have pt1 : ∀ H8, KE l H7 H8 → EvS l (tTup (tCons (tC (.int 1)) (tCons (tCall spRN [] C8.E0 (tCons (tVar 0) (tCons (tC (.int 2)) tNil))) tNil))) σ7 H8 (fun v H' => ∃ x y, PlPc (hid fo l H') v (1, [x, y])) := fun H8 k8 => by
        refine (es_tupF (Pa := fun vs H' => ∃ p d, vs = [.int 1, .ref p] ∧ List.length d = 2 ∧ hid fo l H' p = some (.lst (numsV d))) (eas_cons (es_of fun H9 _ => ev_p ev_c) fun v1 H9 k9 h1 => eas_cons (es_rn (Pn := fun m => m = 2) hσ0 ((es_of fun H9 _ => ev_p (ev_c (v := vN 2))).imp fun v _ _ h => ⟨2, rfl, by decide, h⟩)) fun v2 H10 k10 h2 => eas_nil fun H11 k11 => ?_) (fun vs _ ⟨p, d, h, _⟩ => by rw [h]; show 2 ≤ 100000; decide) fun vs Ha Hb k ⟨p, d, h1, h2, h3⟩ => ⟨p, d, h1, h2, k.hid _ _ h3⟩).imp fun v H9 k9 h => ?_
        · obtain ⟨p, d, rfl, hp, hd, h2, _⟩ := h2
          exact ⟨p, d, by rw [h1], h2, hid_at (nf (k8.trans k9) hp) (nl (k8.trans k9) hp) (k11.1 _ _ (nl (k8.trans k9) hp) hd)⟩
        · obtain ⟨t, vs, rfl, ht, ht2, p, d, rfl, hd, hp⟩ := h
          match d, hd with
          | [x, y], _ => exact ⟨x, y, t, p, rfl, hid_at (nf k8 ht) (nl k8 ht) ht2, hp⟩
      have pt2 : ∀ H8, KE l H7 H8 → EvS l (tTup (tCons (tC (.int 5)) (tCons (tLst (tCons (tC (.int 7)) tNil)) tNil))) σ7 H8 (fun v H' => PlPc (hid fo l H') v (5, [7])) := fun H8 k8 => by
        refine (es_tupF (Pa := fun vs H' => ∃ p, vs = [.int 5, .ref p] ∧ hid fo l H' p = some (.lst (numsV [7]))) (eas_cons (es_of fun H9 _ => ev_p ev_c) fun v1 H9 k9 h1 => eas_cons (es_lstF (Pa := fun vs _ => vs = [.int 7]) (eas_of fun H10 _ => ea_p (ea_cons ev_c ea_nil)) (fun vs _ h => by rw [h]; show 1 ≤ 100000; decide) fun vs _ _ _ h => h) fun v2 H10 k10 h2 => eas_nil fun H11 k11 => ?_) (fun vs _ ⟨p, h, _⟩ => by rw [h]; show 2 ≤ 100000; decide) fun vs Ha Hb k ⟨p, h1, h3⟩ => ⟨p, h1, k.hid _ _ h3⟩).imp fun v H9 k9 h => ?_
        · obtain ⟨p, vs, rfl, hp, hd, rfl⟩ := h2
          exact ⟨p, by rw [h1], hid_at (nf (k8.trans k9) hp) (nl (k8.trans k9) hp) (k11.1 _ _ (nl (k8.trans k9) hp) hd)⟩
        · obtain ⟨t, vs, rfl, ht, ht2, p, rfl, hp⟩ := h
          exact ⟨t, p, rfl, hid_at (nf k8 ht) (nl k8 ht) ht2, hp⟩
      have pm : ∀ {Ha Hb : Hp} {vs : List V} {ps : List (Nat × By)}, KE l Ha Hb → Paired (PlPc (hid fo l Ha)) vs ps → Paired (PlPc (hid fo l Hb)) vs ps := fun k h => L2.Paired.mapP h fun _ _ z => z.mono k.hid
      have pl := fun (H8 : Hp) (k8 : KE l H7 H8) => es_lstF (H := H8) (σ := σ7) (Pa := fun vs H' => vs.length = 2 ∧ ∃ x y, Paired (PlPc (hid fo l H')) vs (pcs 2 x y)) (eas_cons (pt1 H8 k8) fun v1 H9 k9 h1 => eas_cons (pt2 H9 (k8.trans k9)) fun v2 H10 k10 h2 => eas_nil fun H11 k11 => ⟨rfl, (let ⟨x, y, z⟩ := h1; ⟨x, y, .cons (z.mono (k10.hid.trans k11.hid)) (.cons (h2.mono k11.hid) .nil)⟩)⟩) (fun vs _ h => by rw [h.1]; decide) fun vs Ha Hb k ⟨h0, x, y, h⟩ => ⟨h0, x, y, pm k h⟩
      have out := es_lstF (H := H7) (σ := σ7) (Pa := fun vs H' => ∃ pl r x y ps, vs = [.int 9, .ref pl] ∧ r ≤ 2 ∧ hid fo l H' pl = some (.lst ps) ∧ Paired (PlPc (hid fo l H')) ps (pcs r x y)) (eas_cons (es_of fun H8 _ => ev_p (ev_c (v := .int 9))) fun v1 H8 k8 h1 => eas_cons (es_slF (K := K) (n := 3) k8.2 (pl H8 k8) (fun H9 _ => es_draw (E := C8.E0) (k := 3) hσ0 (by decide) (by decide +kernel) fun _ _ => ev_c) fun vs Ha Hb k ⟨h0, x, y, h⟩ => ⟨h0, x, y, pm k h⟩) fun v2 H9 k9 h2 => eas_nil fun H10 k10 => ?_) (fun vs _ ⟨_, _, _, _, _, h, _⟩ => by rw [h]; show 2 ≤ 100000; decide) fun vs Ha Hb k ⟨pl, r, x, y, ps, h1, h2, h3, h4⟩ => ⟨pl, r, x, y, ps, h1, h2, k.hid _ _ h3, pm k h4⟩
      · subst hσ
        refine ⟨.ref o1, rfl, out H7 (KE.refl k57.2) _ fun v H8 k8 hv => ?_⟩
        obtain ⟨p2, vs, rfl, hp2, hp2l, pl, r, x, y, ps, rfl, hr, hps, hpp⟩ := hv
        have h8 : H8 o1 = some (.lst [.str "sparse", vS nm, vN mo, vN ti]) := k8.1 _ _ o1l (e67 _ _ h5)
        refine ⟨o1, p2, _, _, rfl, rfl, h8, hp2l, sz_of (by show 6 ≤ 100000; decide), fun p3 hp3 => ?_⟩
        have p3f : p3 ≠ fo := nf k8 hp3
        have p3l : p3 ≠ l := nl k8 hp3
        refine q_when (b := false) (et_is (tk "sparse" "symlink" rfl) (ne (by decide +kernel))) (fun h => nomatch h) fun _ H9 e9 => ?_
        refine q_when (b := false) (et_is (tk "sparse" "link" rfl) (ne (by decide +kernel))) (fun h => nomatch h) fun _ H10 e10 => ?_
        have e8 := (Ex.new (o := .lst ([.str "sparse", vS nm, vN mo, vN ti] ++ [.int 9, .ref pl])) hp3).trans (e9.trans e10)
        have k80 := KE.of k8.2 e8
        exact fin (m := .spa nm mo ti r x y) (fun _ _ h => h) ((kb5.trans k57).trans (k8.trans k80)) ⟨pl, ps, hid_at p3f p3l ((e9.trans e10) _ _ upd_same), k80.hid _ _ hps, pm k80 hpp⟩ ⟨hB, hr⟩
      · obtain ⟨p, xs2, r, rfl, hp, hr, hx2, h0, x, y, hpp⟩ := h2
        have hpl : hid fo l H10 p = some (.lst (xs2.take r)) := hid_at (nf k8 hp) (nl k8 hp) (k10.1 _ _ (nl k8 hp) hx2)
        refine ⟨p, r, x, y, xs2.take r, by rw [h1], by omega, hpl, ?_⟩
        have h3 := paired_take r (pm k10 hpp)
        have e3 : (pcs 2 x y).take r = pcs r x y := by
          unfold pcs
          rw [List.take_take, Nat.min_eq_left (by omega)]
        rwa [e3] at h3
    · refine q_when (b := false) (et_is (tk "directory" "file" rfl) (ne (by decide +kernel))) (fun h => nomatch h) fun _ H6 e6 => ?_
      refine q_when (b := false) (et_is (tk "directory" "sparse" rfl) (ne (by decide +kernel))) (fun h => nomatch h) fun _ H8 e8 => ?_
      refine q_when (b := false) (et_is (tk "directory" "symlink" rfl) (ne (by decide +kernel))) (fun h => nomatch h) fun _ H9 e9 => ?_
      refine q_when (b := false) (et_is (tk "directory" "link" rfl) (ne (by decide +kernel))) (fun h => nomatch h) fun _ H10 e10 => ?_
      have e80 := ((e6.trans e8).trans e9).trans e10
      exact fin (m := .dir nm mo ti) (fun _ _ h => h) (kb5.trans (KE.of kb5.2 e80)) (hid_at o1f o1l (e80 _ _ h5)) hB
    · refine q_when (b := false) (et_is (tk "symlink" "file" rfl) (ne (by decide +kernel))) (fun h => nomatch h) fun _ H6 e6 => ?_
      refine q_when (b := false) (et_is (tk "symlink" "sparse" rfl) (ne (by decide +kernel))) (fun h => nomatch h) fun _ H7 e7 => ?_
      refine q_when (b := true) (et_is (tk "symlink" "symlink" rfl) (by simp)) (fun _ H8 e8 => ?_) fun h => nomatch h
      have e68 := (e6.trans e7).trans e8
      have k58 := KE.of kb5.2 e68
      refine s_appS (e68 _ _ h5) o1l rfl k58.2 (P := fun v _ => ∃ tg ∈ symTs, v = vS tg) (es_pickC (n := 5) ([("a" : Str), "../d", "/", "s", "d/e"].map V.str) (fun H1 _ => ea_cons ev_c (ea_cons ev_c (ea_cons ev_c (ea_cons ev_c (ea_cons ev_c ea_nil))))) (fun v hv => ?_) rfl (fun H1 _ => es_draw rfl (by decide) (by decide +kernel) fun _ _ => ev_c) (by decide)) (by show 4 < 100000; decide) fun v H9 k9 hv => ?_
      · obtain ⟨s, hs, rfl⟩ := List.mem_map.mp hv
        rw [symTs_str] at hs
        obtain ⟨nm, h, rfl⟩ := List.mem_map.mp hs
        exact ⟨nm, h, rfl⟩
      obtain ⟨tg, htg, rfl⟩ := hv
      refine q_when (b := false) (et_is (tk "symlink" "link" rfl) (ne (by decide +kernel))) (fun h => nomatch h) fun _ H10 e10 => ?_
      have kk := kup (o := .lst ([.str "symlink", vS nm, vN mo, vN ti] ++ [vS tg])) (k58.trans k9)
      exact fin (m := .sym nm mo ti tg) (fun _ _ h => h) (kk.trans (KE.of kk.2 e10)) (hid_at o1f o1l (e10 _ _ upd_same)) ⟨hB, htg⟩
    · refine q_when (b := false) (et_is (tk "link" "file" rfl) (ne (by decide +kernel))) (fun h => nomatch h) fun _ H6 e6 => ?_
      refine q_when (b := false) (et_is (tk "link" "sparse" rfl) (ne (by decide +kernel))) (fun h => nomatch h) fun _ H7 e7 => ?_
      refine q_when (b := false) (et_is (tk "link" "symlink" rfl) (ne (by decide +kernel))) (fun h => nomatch h) fun _ H8 e8 => ?_
      refine q_when (b := true) (et_is (tk "link" "link" rfl) (by simp)) (fun _ H9 e9 => ?_) fun h => nomatch h
      have e69 := ((e6.trans e7).trans e8).trans e9
      have k59 := KE.of kb5.2 e69
      refine s_appS (e69 _ _ h5) o1l rfl k59.2 (P := fun v _ => ∃ tg ∈ lnkTs, v = vS tg) (es_pickC (n := 5) ([("a" : Str), "b", "d/a", "d/e/c", "s"].map V.str) (fun H1 _ => ea_cons ev_c (ea_cons ev_c (ea_cons ev_c (ea_cons ev_c (ea_cons ev_c ea_nil))))) (fun v hv => ?_) rfl (fun H1 _ => es_draw rfl (by decide) (by decide +kernel) fun _ _ => ev_c) (by decide)) (by show 4 < 100000; decide) fun v H10 k10 hv => ?_
      · obtain ⟨s, hs, rfl⟩ := List.mem_map.mp hv
        rw [lnkTs_str] at hs
        obtain ⟨nm, h, rfl⟩ := List.mem_map.mp hs
        exact ⟨nm, h, rfl⟩
      obtain ⟨tg, htg, rfl⟩ := hv
      have kk := kup (o := .lst ([.str "link", vS nm, vN mo, vN ti] ++ [vS tg])) (k59.trans k10)
      exact fin (m := .lnk nm mo ti tg) (fun _ _ h => h) kk (hid_at o1f o1l upd_same) ⟨hB, htg⟩
  · rintro r σ' H' hr ⟨⟨u3, u4, u5, u6, u7, u8, rfl⟩, k, xs, ms, hx, hp, hok, hlen⟩
    refine s_ret (ev_var rfl) fun H2 e2 => q fo xs ms H2 hfo (k.trans (KE.of k.2 e2)) (e2 _ _ hx) (L2.Paired.mapP hp fun _ _ ⟨q, z1, z2⟩ => ⟨q, z1, z2.mono (hid_in.trans e2)⟩) hok (by omega)
end
end Tl
end

section
set_option Elab.async false
set_option linter.all false
set_option maxRecDepth 100000
set_option maxHeartbeats 2000000
/-! Small steps. -/
namespace Tl
open PySem PySem.Spec PyProof.Rows L2 Evl
open Tar (By)
open C8 (Cal Met Mak pe_c pe_mk pe_mt pe_mt0 pe_gc fnScope_by)
/-- a comprehension with an if: R the list after so many items -/
theorem ep_lcF {σ : L2.St} {H : Hp} {wi : TI} {g : TG} {tt : TT} {te : TE} {vs : List Nat} {n : Nat} {Y : Nat → Hp → V → Hp → Prop} (R : Nat → List V → Hp → Prop) (hst : ∀ i ys H H', ExL H H' → R i ys H → R i ys H') (h0 : ∀ H, R 0 [] H) (hi : EvI wi σ H n Y) (hn : n ≤ 50000) (hy : ∀ i H1 x H2, Y i H1 x H2 → Ex H1 H2)
    (turn : ∀ i x H1 H2 ys, i < n → Ex H H1 → Y i H1 x H2 → R i ys H2 → ∃ σ2 : L2.St, (∀ Kk : L2.St → Hp → Prop, (∀ H3, Ex H2 H3 → Kk σ2 H3) → g x (wipe σ vs) H2 Kk) ∧ wipe σ2 vs = wipe σ vs ∧ ∃ b, (∀ H3, Ex H2 H3 → EvT tt σ2 H3 b) ∧ (b = true → ∀ H3, Ex H2 H3 → EvP te σ2 H3 (fun z H' => R (i + 1) (ys ++ [z]) H')) ∧ (b = false → ∀ H3, Ex H2 H3 → R (i + 1) ys H3)) :
    EvN (tLc wi g tt te vs) σ H (R n) := fun H0 e0 Q q =>
  hi H0 e0 _ fun J G H1 e1 w hG stay D hD => by
    refine lc_it w (fun i H' => Ex H1 H' ∧ ∃ ys, H' D = some (.lst ys) ∧ ys.length ≤ i ∧ R i ys H') ⟨Ex.new hD, [], upd_same, Nat.le_refl 0, h0 _⟩
      (fun i H' _ p => stay D H1 H' hD hG p.1) ?_ ?_
    · rintro i x H2 H3 hlt ⟨e2, ys, hD2, hl, hp⟩ y
      have e3 : Ex H2 H3 := hy i H2 x H3 y
      obtain ⟨σ2, h1, h2, b, ht, h3, h4⟩ := turn i x H2 H3 ys hlt ((e0.trans e1).trans e2) y (hst _ _ _ _ (ExL.of e3) hp)
      refine h1 _ fun H4 e4 => ⟨h2, ?_⟩
      refine ht H4 e4 H4 (Ex.refl H4) _ fun H5 e5 => ?_
      cases b with
      | true =>
        show te σ2 H5 _
        refine h3 rfl H4 e4 H5 e5 _ fun z H6 e6 pz => ?_
        have hD6 : H6 D = some (.lst ys) := e6 D _ (e5 D _ (e4 D _ (e3 D _ hD2)))
        exact ⟨ys, hD6, sz_lt (by omega), Ex.mut ((((e2.trans e3).trans e4).trans e5).trans e6) hD, ys ++ [z], upd_same, by rw [List.length_append, List.length_singleton]; omega, hst _ _ _ _ (ExL.put hD6) pz⟩
      | false => exact ⟨(((e2.trans e3).trans e4).trans e5), ys, e5 D _ (e4 D _ (e3 D _ hD2)), by omega, hst _ _ _ _ (ExL.of e5) (h4 rfl H4 e4)⟩
    · rintro H' ⟨e2, ys, hD2, hl, hp⟩
      exact q D ys H' (fresh_back e1 hD) (e1.trans e2) hD2 hp
theorem valV_merge (k : Key) : ∀ (kvs acc : List (Key × V)), k ∉ kvs.map (·.1) → valV (mergeK acc kvs) k = valV acc k
  | [], _, _ => rfl
  | p :: r, acc, h => by
    show valV (mergeK (putK acc p.1 p.2) r) k = _
    rw [valV_merge k r _ fun z => h (List.mem_cons_of_mem _ z), valV_put, if_neg fun z => h (by rw [z]; exact List.mem_cons_self ..)]
theorem valV_mem : ∀ (kvs acc : List (Key × V)), (kvs.map (·.1)).Nodup → ∀ kv ∈ kvs, valV (mergeK acc kvs) kv.1 = some kv.2
  | [], _, _, _, h => nomatch h
  | p :: r, acc, nd, kv, h => by
    show valV (mergeK (putK acc p.1 p.2) r) kv.1 = _
    rw [List.map_cons, List.nodup_cons] at nd
    rcases List.mem_cons.mp h with rfl | h
    · rw [valV_merge _ r _ nd.1, valV_put, if_pos rfl]
    · exact valV_mem r _ nd.2 kv h
/-- the path is the name, or above it -/
def near (p nm : Path) : Bool := decide (p = nm) || decide (nm.take (p.length + 1) = p ++ [47])
def En.notL : En → Bool | .lnk _ => false | _ => true
section
variable {P : Program} {w : World} {K : PySem.W.Frag} {mg : Str → Option Value} {base : Heap} {a : Ad}
theorem en_head (e : En) : ∃ k r, enV e = V.str k :: r ∧ (!decide (V.str k = V.str "link")) = e.notL ∧ (!inV (V.str k) [.str "link", .str "file"]) = e.plain.isSome := by
  cases e
  · exact ⟨"file", _, rfl, (show (!decide (V.str "file" = V.str "link")) = true by decide +kernel), (show (!inV (V.str "file") [.str "link", .str "file"]) = false by decide +kernel)⟩
  · exact ⟨"directory", _, rfl, (show (!decide (V.str "directory" = V.str "link")) = true by decide +kernel), (show (!inV (V.str "directory") [.str "link", .str "file"]) = true by decide +kernel)⟩
  · exact ⟨"symlink", _, rfl, (show (!decide (V.str "symlink" = V.str "link")) = true by decide +kernel), (show (!inV (V.str "symlink") [.str "link", .str "file"]) = true by decide +kernel)⟩
  · exact ⟨"link", _, rfl, (show (!decide (V.str "link" = V.str "link")) = false by decide +kernel), (show (!inV (V.str "link") [.str "link", .str "file"]) = false by decide +kernel)⟩
theorem RowsA.monoL {H H' : Hp} {rs : List V} {r : List (Path × En)} (e : ExL H H') (h : RowsA K H rs r) : RowsA K H' rs r := h.mono (a := ⟨0, 0, 0, 0, 0, 0, 0, 0, 0, 0, 0, 0, 0, 0, 0, 0, 0⟩) fun p o ho s => e p o ho fun xs z => stay_lst (z ▸ s)
theorem rows_kv {H : Hp} {ys : List V} {rs : List (Path × En)} (h : RowsA K H ys rs) : ∃ (ps : List Addr) (kvs : List (Key × V)), ys = ps.map V.ref ∧ Paired (fun p kv => SqT K H p [kV kv.1, kv.2]) ps kvs ∧ Paired (fun (kv : Key × V) (r : Path × En) => kv.1 = kS r.1 ∧ TkV K H kv.2 (enV r.2)) kvs rs := by
  induction h with
  | nil => exact ⟨[], [], rfl, .nil, .nil⟩
  | cons h _ ih =>
    obtain ⟨ps, kvs, h1, h2, h3⟩ := ih
    obtain ⟨b, t, rfl, hb, ht⟩ := h
    exact ⟨b :: ps, (kS _, t) :: kvs, by rw [h1]; rfl, .cons (st_of hb) h2, .cons ⟨rfl, ht⟩ h3⟩
abbrev nm_law_is_small_step : List Str := ["_law_before", "_law_after", "_law_name", "_law_old", "_law_path", "_law_thing", "_law_paths", "_law_is_near"]
theorem sc_law_is_small_step : FnScope nm_law_is_small_step ["_law_before", "_law_after", "_law_name"] (defScope s_law_is_small_step) := fnScope_by (by decide +kernel)
abbrev rSt (K : PySem.W.Frag) : List V → Hp → V → Prop := fun vs H z => ∃ lb la rb ra r1 r2 nm, vs = [.ref lb, .ref la, vS nm] ∧ H lb = some (.lst rb) ∧ H la = some (.lst ra) ∧ RowsA K H rb r1 ∧ RowsA K H ra r2 ∧ (r1.map (·.1)).Nodup ∧ r1.length ≤ 50 ∧ r2.length ≤ 50 ∧ (∀ pe ∈ r2, pe.1.length ≤ 10) ∧ nm.length ≤ 10 ∧
  (∀ pe ∈ r2, ∀ t, pe.2.plain = some t → near pe.1 nm = false → pe ∈ r1) ∧ (∀ pe ∈ r1, pe.1 ∈ r2.map (·.1)) ∧ z = .bl true
theorem ok_law_is_small_step (T : Txt K mg a) (F : DB K mg "_law_is_small_step" s_law_is_small_step ["_law_before", "_law_after", "_law_name"]) :
    Cal P w K mg base 3 "_law_is_small_step" (spV 3 (rSt K)) [] := by
  refine cal_of F sc_law_is_small_step (fun _ _ _ _ h => h.1) fun f cdv A outer s H vs Q E hr h => ⟨_, (pss_cons (ps_set (i := 3) sc_law_is_small_step.nd rfl (Or.inl rfl) (pe_callTy (call_dictP rfl) (by rfl) T.b_dict (by decide +kernel) (pa_cons (pe_lc (own := [("_law_path", 4), ("_law_thing", 5)]) (g := (gTup K 2 (gCons (gName 4) (gCons (gName 5) gNil)))) rfl sc_law_is_small_step.nd (pi_list (pv 0)) (blkOk_by (own := [("_law_path", 4), ("_law_thing", 5)]) (N := nm_law_is_small_step) (sc := defScope s_law_is_small_step) (by decide +kernel)) (fun _ _ _ _ _ => (pg_tup rfl (pgs_cons (pg_name (i := 4) sc_law_is_small_step.nd rfl (Or.inl rfl)) (pgs_cons (pg_name (i := 5) sc_law_is_small_step.nd rfl (Or.inl rfl)) pgs_nil)))) (fun _ _ _ _ _ => (pts_one (pt_cmpR op_ne (pe_ix (ix_seqK (K := K) rfl) (pv 5) pe_int (fun _ _ => rfl)) pe_str (nomark _)))) (fun _ _ _ _ _ => (pe_tup (pa_cons (pv 4) (pa_cons (pv 5) pa_nil))))) pa_nil)))
    (pss_cons (ps_for PassesOwn.never rfl (pi_list (pv 1)) (pg_tup rfl (pgs_cons (pg_name (i := 4) sc_law_is_small_step.nd rfl (Or.inl rfl)) (pgs_cons (pg_name (i := 5) sc_law_is_small_step.nd rfl (Or.inl rfl)) pgs_nil))) (pss_cons (ps_set (i := 7) sc_law_is_small_step.nd rfl (Or.inl rfl) (pe_or (pe_cmpR op_eq (pv 4) (pv 2) (nomark _)) (pe_one (pe_cmpR op_eq (pe_slice sl_str (pv 2) po_none (po_some (pe_op op_add (pe_callB call_len (by rfl) T.b_len PySem.boot_len (pa_cons (pv 4) pa_nil)) pe_int))) (pe_op op_add_str (pv 4) pe_str) (nomark _)))))
    (pss_one (ps_if (PW.pt (pw_and (pt_cmpR op_notIn_seq (pe_ix ix_seq (pv 5) pe_int (fun _ _ => rfl)) (pe_tup (pa_cons pe_str (pa_cons pe_str pa_nil))) (by rfl)) (pw_and (pt_not (pt_val (pv 7))) (pw_and1 (pt_cmpR (op_neG (n := 1) (rcN_tup mon_fb (n := 0) eqG_fb) (hr.mono (by decide))) (pe_dget2 (hu_of hr) (pv 3) (pv 4) pe_non ⟨rfl, rfl, rfl, rfl⟩) (pv 5) (nomark _)))))) (pss_one (ps_ret pe_bl)) pss_nil))))
    (pss_cons (ps_set (i := 6) sc_law_is_small_step.nd rfl (Or.inr rfl) (pe_lc (own := [("_law_path", 4), ("_law_thing", 5)]) (g := (gTup K 2 (gCons (gName 4) (gCons (gName 5) gNil)))) (tt := tYes) rfl sc_law_is_small_step.nd (pi_list (pv 1)) (blkOk_by (own := [("_law_path", 4), ("_law_thing", 5)]) (N := nm_law_is_small_step) (sc := defScope s_law_is_small_step) (by decide +kernel)) (fun _ _ _ _ _ => (pg_tup rfl (pgs_cons (pg_name (i := 4) sc_law_is_small_step.nd rfl (Or.inl rfl)) (pgs_cons (pg_name (i := 5) sc_law_is_small_step.nd rfl (Or.inl rfl)) pgs_nil)))) (fun _ _ _ _ _ => pts_nil) (fun _ _ _ _ _ => (pv 4))))
    (pss_one (ps_ret (pe_cmpR (op_eqG (n := 1) (rcG_list mon_fb (n := 0) eqG_fb) (hr.mono (by decide))) (pe_lc (own := [("_law_path", 4), ("_law_thing", 5)]) (g := (gTup K 2 (gCons (gName 4) (gCons (gName 5) gNil)))) rfl sc_law_is_small_step.nd (pi_list (pv 0)) (blkOk_by (own := [("_law_path", 4), ("_law_thing", 5)]) (N := nm_law_is_small_step) (sc := defScope s_law_is_small_step) (by decide +kernel)) (fun _ _ _ _ _ => (pg_tup rfl (pgs_cons (pg_name (i := 4) sc_law_is_small_step.nd rfl (Or.inl rfl)) (pgs_cons (pg_name (i := 5) sc_law_is_small_step.nd rfl (Or.inl rfl)) pgs_nil)))) (fun _ _ _ _ _ => (pts_one (pt_cmpR (notIn_seqK (K := K) rfl) (pv 4) (pv 6) (by rfl)))) (fun _ _ _ _ _ => (pv 4))) (pe_lst pa_nil) (nomark _))))))), ?_⟩
  obtain ⟨_, _, ⟨lb, la, rb, ra, r1, r2, nm, rfl, hlb, hla, hr1, hr2, nd, z1, z2, hp2, hnm, hA, hB, rfl⟩, q⟩ := h
  have l1 := paired_len hr1
  have l2 := paired_len hr2
  have ltr : (r1.filter fun pe => pe.2.notL).length ≤ 50 := Nat.le_trans (List.length_filter_le ..) z1
  have old := ep_lcF (σ := L2.start nm_law_is_small_step [.ref lb, .ref la, vS nm]) (H := H) (g := gTup K 2 (gCons (gName 4) (gCons (gName 5) gNil))) (tt := tTest (tOp rNe (tOp (rIx K) (tVar 5) (tC (V.int 0))) (tC (V.str "link")))) (te := tTup (tCons (tVar 4) (tCons (tVar 5) tNil))) (vs := [4, 5])
    (fun i ys H' => RowsA K H' ys ((r1.take i).filter fun pe => pe.2.notL)) (fun i ys H H' e h => RowsA.monoL e h) (fun H => .nil) (ei_list (K := K) (ev_var (i := 0) rfl) (sq_of hlb)) (by omega) ex_at fun i x H1 H2 ys hi e hy hR => by
      obtain ⟨rfl, hx⟩ := hy
      obtain ⟨pe, hpe, b, t, rfl, hb, bt, rfl, ht⟩ := paired_get hr1 hx
      have hb2 := e _ _ hb
      obtain ⟨kk, rr, hk1, hk2, hk3⟩ := en_head pe.2
      have th : ∀ {H3 : Hp} {σ' : L2.St}, Ex H2 H3 → σ'[5]? = some (some (.ref bt)) → Ev (tOp (rIx K) (tVar 5) (tC (.int 0))) σ' H3 (.str kk) := fun e3 hv => ev_op (ev_var hv) ev_c (rv_ixt (ht.mono (a := a) (ExT.of (e.trans e3))).sq (by rw [hk1]; exact atI0))
      refine ⟨_, fun Kk hk => ⟨b, [vS pe.1, .ref bt], rfl, st_of hb2, rfl, _, _, rfl, _, _, rfl, rfl, hk H2 (Ex.refl H2)⟩, rfl, pe.2.notL, fun H3 e3 => et_is (et_ne (th e3 rfl) ev_c rfl) hk2, fun hn H3 e3 => ?_, fun hn H3 e3 => ?_⟩
      · refine (EvU.p (eu_tup (ea_cons (ev_var rfl) (ea_cons (ev_var rfl) ea_nil)) (by show 2 ≤ 100000; decide))).imp fun v H4 e4 hv => ?_
        obtain ⟨t, rfl, ht4⟩ := hv
        rw [List.take_add_one, hpe, List.filter_append]
        refine paired_app (RowsA.monoL (ExL.of (e3.trans e4)) hR) ?_
        have f1 : ([pe].filter fun pe : Path × En => pe.2.notL) = [pe] := List.filter_cons_of_pos (p := fun pe : Path × En => pe.2.notL) hn
        show Paired _ _ ([pe].filter fun pe : Path × En => pe.2.notL)
        rw [f1]
        exact .cons ⟨t, .ref bt, rfl, ht4, bt, rfl, ht.mono (a := a) (ExT.of ((e.trans e3).trans e4))⟩ .nil
      · rw [List.take_add_one, hpe, List.filter_append]
        have f1 : ([pe].filter fun pe : Path × En => pe.2.notL) = [] := List.filter_cons_of_neg (p := fun pe : Path × En => pe.2.notL) (by rw [hn]; decide)
        show RowsA K H3 ys (_ ++ [pe].filter fun pe : Path × En => pe.2.notL)
        rw [f1, List.append_nil]
        exact RowsA.monoL (ExL.of e3) hR
  rw [l1, List.take_length] at old
  refine q_asgP (P := fun v H' => ∃ d kvs, v = .ref d ∧ H' d = some (.dK kvs) ∧ ∀ pe ∈ r1, pe.2.notL = true → ∃ t, valV kvs (kS pe.1) = some t ∧ TkV K H' t (enV pe.2)) ?_ fun v H1 e1 hv => ?_
  · intro H1 e1 Q q
    have r := old H1 e1 (fun v H2 => ∃ (a : Addr) (ps : List Addr) (kvs : List (Key × V)), [v] = [V.ref a] ∧ SqL K H2 a (ps.map V.ref) ∧ Paired (fun p kv => SqT K H2 p [kV kv.1, kv.2]) ps kvs ∧ ∀ p, H2 p = none → Q (V.ref p) (upd H2 p (HO.dK (mergeK [] kvs)))) fun p ys H2 hp e2 h2 hR => ?_
    · exact r
    obtain ⟨ps, kvs, rfl, k1, k2⟩ := rows_kv hR
    refine ⟨p, ps, kvs, rfl, sq_of h2, k1, fun d hd => q _ _ (e2.trans (Ex.new hd)) ⟨d, _, rfl, upd_same, fun pe hpe hn => ?_⟩⟩
    have hmem : pe ∈ r1.filter fun pe => pe.2.notL := List.mem_filter.mpr ⟨hpe, hn⟩
    obtain ⟨j, hj⟩ := List.mem_iff_getElem?.mp hmem
    have hlen := paired_len k2
    have hj2 : j < kvs.length := by rw [hlen]; exact (List.getElem?_eq_some_iff.mp hj).1
    obtain ⟨pe', hpe', hk, ht⟩ := paired_get k2 (List.getElem?_eq_getElem hj2)
    rw [hj] at hpe'
    cases hpe'
    refine ⟨kvs[j].2, ?_, ht.mono (a := a) (ExT.of (Ex.new hd))⟩
    have nk : (kvs.map (·.1)).Nodup := by
      have e : kvs.map (·.1) = (r1.filter fun pe => pe.2.notL).map fun pe => kS pe.1 := by
        refine List.ext_getElem? fun i => ?_
        rw [List.getElem?_map, List.getElem?_map]
        cases hi : kvs[i]? with
        | none =>
          have := List.getElem?_eq_none_iff.mp hi
          rw [List.getElem?_eq_none (by omega)]
          rfl
        | some kv =>
          obtain ⟨pe2, h2, h3, _⟩ := paired_get k2 hi
          rw [h2]
          exact congrArg some h3
      rw [e]
      have nd2 : ((r1.filter fun pe => pe.2.notL).map (·.1)).Nodup := (List.filter_sublist.map _).nodup nd
      have : ((r1.filter fun pe => pe.2.notL).map fun pe => kS pe.1) = ((r1.filter fun pe => pe.2.notL).map (·.1)).map kS := by rw [List.map_map]; rfl
      rw [this]
      exact List.Pairwise.map _ (fun _ _ h z => h (kS_inj z)) nd2
    rw [← hk]
    exact valV_mem kvs [] nk _ (List.getElem_mem hj2)
  obtain ⟨d, kvs, rfl, hd, hdv⟩ := hv
  refine q_forL (ev_var rfl) (sq_of (e1 _ _ hla)) (fun i σ' H' => (∃ u4 u5 u6 u7, σ' = [some (.ref lb), some (.ref la), some (vS nm), some (.ref d), u4, u5, u6, u7]) ∧ Ex H1 H') (fun H2 e2 => ⟨⟨_, _, _, _, rfl⟩, e2⟩) (fun i σ' H' _ p => sq_of (p.2 _ _ (e1 _ _ hla))) ?_ ?_
  · rintro i x σ' H2 hx ⟨⟨u4, u5, u6, u7, rfl⟩, e2⟩
    have e12 := e1.trans e2
    obtain ⟨pe, hpe, b, t, rfl, hb, bt, rfl, ht⟩ := paired_get hr2 hx
    have hmem := List.mem_of_getElem? hpe
    have hpl := hp2 pe hmem
    obtain ⟨kk, rr, hk1, hk2, hk3⟩ := en_head pe.2
    refine ⟨b, _, rfl, st_of (e12 _ _ hb), rfl, _, _, rfl, _, _, rfl, rfl, ?_⟩
    have dec : ∀ x y : List Nat, decide (vS x = vS y) = decide (x = y) := fun x y => decide_eq_decide.mpr ⟨fun h => sS_inj (by injection h), fun h => by rw [h]⟩
    refine q_asg (v := .bl (near pe.1 nm)) (ev_orV (a := decide (pe.1 = nm)) (b := decide (nm.take (pe.1.length + 1) = pe.1 ++ [47])) (ev_is (ev_op (x := vS pe.1) (y := vS nm) (ev_var rfl) (ev_var rfl) (rv_eq rfl)) (by rw [dec])) fun _ => ev_is (ev_op (x := vS (nm.take (pe.1.length + 1))) (y := vS (pe.1 ++ [47])) (ev_takeS (ev_var rfl) (eo_some (ev_is (ev_I (g := fun i j => i + j) (ev_lenS (l := sS pe.1) (ev_var rfl) (by rw [sS_len]; omega)) ev_c) (by rw [sS_len]; rfl))) (by omega)) (ev_op (x := vS pe.1) (y := .str "/") (ev_var rfl) ev_c fun H3 e3 Q3 q3 => ⟨_, _, rfl, rfl, ?_, ?_⟩) (rv_eq rfl)) (by rw [dec])) fun H3 e3 => ?_
    · rw [sS_len]
      exact sz_of (by show pe.1.length + 1 ≤ 100000; omega)
    · have e : sS pe.1 ++ ("/" : Str) = sS (pe.1 ++ [47]) := by
        rw [show ("/" : Str) = sS [47] by decide +kernel]
        exact SX.S_cat _ _
      rw [e]
      exact q3 H3 (Ex.refl H3)
    have e13 := e12.trans e3
    have htt : ∀ {H4 : Hp}, Ex H3 H4 → TK K H4 bt (enV pe.2) := fun e4 => ht.mono (a := a) (ExT.of (e13.trans e4))
    refine s_when (b := false) ?_ (fun h => nomatch h) fun _ H4 e4 => ⟨⟨_, _, _, _, rfl⟩, (e2.trans e3).trans e4⟩
    have t1 : EvT (tTest (tOp (rIn K true) (tOp (rIx K) (tVar 5) (tC (.int 0))) (tTup (tCons (tC (.str "link")) (tCons (tC (.str "file")) tNil))))) [some (.ref lb), some (.ref la), some (vS nm), some (.ref d), some (vS pe.1), some (.ref bt), u6, some (.bl (near pe.1 nm))] H3 pe.2.plain.isSome := et_is (et_test (ev_opU (ev_op (ev_var rfl) ev_c (rv_ixt (htt (Ex.refl H3)).sq (by rw [hk1]; exact atI0))) (eu_tup (ea_cons ev_c (ea_cons ev_c ea_nil)) (by show 2 ≤ 100000; decide)) fun p H4 h4 e4 => rv_niT (st_of h4) rfl rfl)) hk3
    cases hpl2 : pe.2.plain with
    | none =>
      rw [hpl2] at t1
      exact et_and (a := false) (b := false) t1 fun h => nomatch h
    | some tt =>
      rw [hpl2] at t1
      refine et_and (a := true) (b := false) t1 fun _ => ?_
      cases hn : near pe.1 nm with
      | true => exact et_and (a := false) (b := false) (et_nT (et_B (ev_var rfl))) fun h => nomatch h
      | false =>
        refine et_and (a := true) (b := false) (et_not (a := false) (et_B (ev_var rfl))) fun _ => ?_
        have hin := hA pe hmem tt hpl2 hn
        obtain ⟨t', hv', b', rfl, ht'⟩ := hdv pe hin (by
          cases h : pe.2 <;> rw [h] at hpl2 <;> first | rfl | cases hpl2)
        have e23 := e2.trans e3
        have hget : Ev (tDGet2 (tVar 3) (tVar 4) (tC .non)) [some (.ref lb), some (.ref la), some (vS nm), some (.ref d), some (vS pe.1), some (.ref bt), u6, some (.bl false)] H3 (.ref b') := fun H4 e4 Q q => by
          have hd4 := e4 _ _ (e23 _ _ hd)
          refine ⟨_, rfl, d, rfl, .inl ⟨_, .inl hd4⟩, _, rfl, ev_c H4 (Ex.refl H4) _ fun H5 e5 => ⟨some (.ref b'), ?_, q H5 e5⟩⟩
          rw [← hv']
          exact DGet.k (k := .inr (sS pe.1)) (e5 _ _ hd4)
        refine et_test (ev_op hget (ev_var rfl) (rv_neG (mon_tup mon_fb) ⟨b', bt, _, _, rfl, rfl, (ht'.mono (a := a) (ExT.of e23)).sq, (htt (Ex.refl H3)).sq, rfl, fun i x y h1 h2 => ?_⟩))
        rw [h1] at h2
        cases h2
        refine ⟨rfl, ?_⟩
        have hx := List.mem_of_getElem? h1
        have fl : ∀ x ∈ enV pe.2, flatB x = true := by
          cases pe.2 <;> simp [enV, thV, fiV, flatB]
        exact fl x hx
  · rintro σ' H2 ⟨⟨u4, u5, u6, u7, rfl⟩, e2⟩
    have e12 := e1.trans e2
    have paths : EvL (tLc (iList K (tVar 1)) (gTup K 2 (gCons (gName 4) (gCons (gName 5) gNil))) tYes (tVar 4) [4, 5]) [some (.ref lb), some (.ref la), some (vS nm), some (.ref d), u4, u5, u6, u7] H2 (r2.map fun pe => vS pe.1) := by
      refine EvN.toL ((ep_lc (fun i v H' => ((r2[i]?).elim False fun pe => v = vS pe.1)) (fun i v H H' _ h => h) (ei_list (K := K) (ev_var (i := 1) rfl) (sq_of (e12 _ _ hla))) (by omega) ex_at fun i x H5 H6 hi e hy => ?_).imp fun ys H3 e3 h => ?_)
      · obtain ⟨rfl, hx⟩ := hy
        obtain ⟨pe, hpe, b, t, rfl, hb, bt, rfl, ht⟩ := paired_get hr2 hx
        refine turn_pair (e _ _ (e12 _ _ hb)) rfl ?_
        refine (ev_p (ev_var rfl)).imp fun v H7 e7 hv => ?_
        rw [hpe]
        exact hv
      · refine List.ext_getElem? fun i => ?_
        rw [List.getElem?_map]
        cases e : ys[i]? with
        | none =>
          have := List.getElem?_eq_none_iff.mp e
          have := h.1
          rw [List.getElem?_eq_none (by omega)]
          rfl
        | some y =>
          have h3 : (r2[i]?).elim False fun pe => y = vS pe.1 := h.2 i y e
          cases e2 : r2[i]? with
          | none => rw [e2] at h3; exact h3.elim
          | some pe =>
            rw [e2] at h3
            exact congrArg some h3
    refine q_asgL paths fun pl H3 hpl e3 h3 => ?_
    have e13 := e12.trans e3
    have lf := ep_lcF (σ := [some (.ref lb), some (.ref la), some (vS nm), some (.ref d), u4, u5, some (.ref pl), u7]) (H := H3) (g := gTup K 2 (gCons (gName 4) (gCons (gName 5) gNil))) (tt := tTest (tOp (rIn K true) (tVar 4) (tVar 6))) (te := tVar 4) (vs := [4, 5])
      (fun i ys H' => ys = []) (fun i ys H H' e h => h) (fun H => rfl) (ei_list (K := K) (ev_var (i := 0) rfl) (sq_of (e13 _ _ hlb))) (by omega) ex_at fun i x H5 H6 ys hi e hy hR => by
        obtain ⟨rfl, hx⟩ := hy
        obtain ⟨pe, hpe, b, t, rfl, hb, bt, rfl, ht⟩ := paired_get hr1 hx
        have hin := hB pe (List.mem_of_getElem? hpe)
        have hiv : inV (vS pe.1) (r2.map fun pe => vS pe.1) = true := by
          obtain ⟨pe', h1, h2⟩ := List.mem_map.mp hin
          unfold inV
          rw [List.any_eq_true]
          refine ⟨vS pe.1, List.mem_map.mpr ⟨pe', h1, by rw [h2]⟩, ?_⟩
          show (sS pe.1 == sS pe.1) = true
          rw [SX.S_beq]
          exact beq_self_eq_true pe.1
        refine ⟨_, fun Kk hk => ⟨b, [vS pe.1, .ref bt], rfl, st_of (e _ _ (e13 _ _ hb)), rfl, _, _, rfl, _, _, rfl, rfl, hk _ (Ex.refl _)⟩, rfl, false, fun H7 e7 => et_is (et_test (ev_op (x := vS pe.1) (ev_var rfl) (ev_var rfl) (rv_niL (sq_of ((e.trans e7) _ _ h3)) rfl (by
          rw [List.all_map]
          exact List.all_eq_true.mpr fun _ _ => rfl)))) (by rw [hiv]; rfl), (fun h => nomatch h), fun _ H7 e7 => hR⟩
    refine s_ret (v := .bl true) ?_ fun H4 e4 => q H4 (e13.trans e4)
    intro H4 e4 Q4 q4
    refine lf H4 e4 _ fun p ys H5 hp e5 h5 hys => ?_
    subst hys
    refine ⟨Nat.zero_le _, fun p2 hp2 => ⟨⟨p, p2, [], [], rfl, rfl, ?_, upd_same, Prs.nil⟩, fun H6 e6 => q4 H6 ((e5.trans (Ex.new hp2)).trans e6)⟩⟩
    exact Ex.new hp2 _ _ h5
end
end Tl
end

section
set_option Elab.async false
set_option linter.all false
set_option maxRecDepth 100000
set_option maxHeartbeats 2000000
/-! The law's plain mathematics: the walk's houses. -/
namespace Tl
open PySem PySem.Spec PyProof.Rows L2 Evl
open Tar (By)
theorem near_abv : ∀ nm ∈ labels, ∀ p ∈ abv nm, near p nm = true := by decide +kernel
theorem lab_len : ∀ p ∈ labels, p.length ≤ 10 := by decide +kernel
/-- the houses of a walk, its start ahead -/
def tow (S : HS) (i : Nat) (ms : List Mem) : List HS := S :: (walkH S i ms).1
theorem tow_cons {S : HS} {i : Nat} {m : Mem} {ms : List Mem} (h : S.refuse m = "") : tow S i (m :: ms) = S :: tow (S.put m) (i + 1) ms := by
  unfold tow
  conv => lhs; unfold walkH
  rw [if_pos h]
theorem tow_stop {S : HS} {i : Nat} {m : Mem} {ms : List Mem} (h : S.refuse m ≠ "") : tow S i (m :: ms) = [S] := by
  unfold tow
  conv => lhs; unfold walkH
  rw [if_neg h]
theorem tow_at : ∀ {ms : List Mem} {S : HS} {i n : Nat}, S.Wf n → (∀ m ∈ ms, m.Ok) → ∀ {j : Nat} {S' : HS}, (tow S i ms)[j + 1]? = some S' → ∃ m S0, ms[j]? = some m ∧ (tow S i ms)[j]? = some S0 ∧ S' = S0.put m ∧ S0.Wf (n + j) ∧ m.Ok
  | [], S, i, n, W, ho, j, S', h => by
    unfold tow walkH at h
    simp at h
  | m :: ms, S, i, n, W, ho, j, S', h => by
    by_cases hr : S.refuse m = ""
    · rw [tow_cons hr] at h ⊢
      have hm := ho m (List.mem_cons_self ..)
      cases j with
      | zero =>
        refine ⟨m, S, rfl, rfl, ?_, W, hm⟩
        unfold tow at h
        simpa using h.symm
      | succ j =>
        obtain ⟨m', S0, h1, h2, h3, h4, h5⟩ := tow_at (wf_put W hm.base.nm) (fun m hm => ho m (List.mem_cons_of_mem _ hm)) (j := j) h
        exact ⟨m', S0, h1, h2, h3, by rw [show n + (j + 1) = n + 1 + j by omega]; exact h4, h5⟩
    · rw [tow_stop hr] at h
      simp at h
theorem tow_len : ∀ {ms : List Mem} {S : HS} {i : Nat}, (tow S i ms).length ≤ ms.length + 1
  | [], _, _ => Nat.le_refl _
  | m :: ms, S, i => by
    by_cases hr : S.refuse m = ""
    · rw [tow_cons hr]
      exact Nat.succ_le_succ tow_len
    · rw [tow_stop hr]
      exact Nat.succ_le_succ (Nat.zero_le _)
/-- the first n members, against the walk of all -/
theorem run_tow : ∀ {ms : List Mem} {S : HS} {i n : Nat}, n ≤ ms.length → (∃ S', (tow S i ms)[n]? = some S' ∧ runH S i (ms.take n) = .inl S') ∨ ((tow S i ms).length ≤ n ∧ ∃ j w, (walkH S i ms).2 = some (j, w) ∧ runH S i (ms.take n) = .inr (j, w))
  | ms, S, i, 0, _ => .inl ⟨S, rfl, rfl⟩
  | m :: ms, S, i, n + 1, h => by
    by_cases hr : S.refuse m = ""
    · rw [tow_cons hr, List.take_succ_cons]
      have e1 : runH S i (m :: ms.take n) = runH (S.put m) (i + 1) (ms.take n) := by
        conv => lhs; unfold runH
        rw [if_pos hr]
      have e2 : (walkH S i (m :: ms)).2 = (walkH (S.put m) (i + 1) ms).2 := by
        conv => lhs; unfold walkH
        rw [if_pos hr]
      rw [e1, e2]
      rcases run_tow (S := S.put m) (i := i + 1) (Nat.le_of_succ_le_succ h) with ⟨S', h1, h2⟩ | ⟨h1, j, w, h2, h3⟩
      · exact .inl ⟨S', h1, h2⟩
      · exact .inr ⟨Nat.succ_le_succ h1, j, w, h2, h3⟩
    · refine .inr ⟨?_, i, S.refuse m, ?_, ?_⟩
      · rw [tow_stop hr]
        exact Nat.succ_le_succ (Nat.zero_le _)
      · conv => lhs; unfold walkH
        rw [if_neg hr]
      · rw [List.take_succ_cons]
        conv => lhs; unfold runH
        rw [if_neg hr]
theorem small_A {S : HS} {n n' : Nat} {m : Mem} (W : S.Wf n) (W' : (S.put m).Wf n') (hm : m.nm ∈ labels) : ∀ pe ∈ (S.put m).rows, ∀ t, pe.2.plain = some t → near pe.1 m.nm = false → pe ∈ S.rows := fun pe hpe t ht hn => by
  have hg := (row_plain W' (q := pe.1) ht).1 hpe
  have h1 : pe.1 ≠ m.nm := fun z => by
    unfold near at hn
    rw [z] at hn
    simp at hn
  have h2 : pe.1 ∉ abv m.nm := fun z => by
    rw [near_abv _ hm _ z] at hn
    cases hn
  rw [put_get h1 h2] at hg
  exact (row_plain W (q := pe.1) ht).2 hg
theorem small_B {S : HS} {n n' : Nat} {m : Mem} (W : S.Wf n) (W' : (S.put m).Wf n') : ∀ pe ∈ S.rows, pe.1 ∈ (S.put m).rows.map (·.1) := fun pe hpe => by
  rw [keys_rows W']
  refine (mem_srt W').2 (put_some ((mem_srt W).1 ?_))
  rw [← keys_rows W]
  exact List.mem_map.mpr ⟨pe, hpe, rfl⟩
theorem rows_nd {S : HS} {n : Nat} (W : S.Wf n) : (S.rows.map (·.1)).Nodup := by
  rw [keys_rows W]
  exact List.Pairwise.filter _ labels_nd
theorem rows_lab {S : HS} {n : Nat} (W : S.Wf n) : ∀ pe ∈ S.rows, pe.1 ∈ labels := fun pe hpe => by
  have h : pe.1 ∈ S.rows.map (·.1) := List.mem_map.mpr ⟨pe, hpe, rfl⟩
  rw [keys_rows W] at h
  exact (List.mem_filter.mp h).1
theorem rows_len {S : HS} {n : Nat} (W : S.Wf n) : S.rows.length ≤ 8 := by
  have h : (S.rows.map (·.1)).length ≤ labels.length := by
    rw [keys_rows W]
    exact List.length_filter_le ..
  rw [List.length_map] at h
  exact h
end Tl
end

section
set_option Elab.async false
set_option linter.all false
set_option maxRecDepth 100000
set_option maxHeartbeats 2000000
/-! The law. -/
namespace Tl
open PySem PySem.Spec PyProof.Rows L2 Evl
open Tar (By)
open C8 (Cal Met Mak pe_c pe_mk pe_mt pe_mt0 pe_gc fnScope_by)
/-- what == of members stands on -/
structure EqM (P : Program) (w : World) (K : PySem.W.Frag) (mg : Str → Option Value) (base : Heap) (a : Ad) : Prop where
  ex : ∃ f fd, FnOk P w K mg base C8.CX0 4 f fd ["self", "other"] (spEq (Same a)) ∧ PySem.W.isFn K (.ref f) = true ∧ Binds K fd ["self", "other"] [] ∧ ∀ m : Mem, PySem.W.findIn K (.ref (m.cls a)) "__eq__" = some (some (.ref f))
def DMs (a : Ad) : L2.Eqv := fun x y H => ∃ m : Mem, L2.DIns (m.cls a) (Same a) x y H
section
variable {P : Program} {w : World} {K : PySem.W.Frag} {mg : Str → Option Value} {base : Heap} {a : Ad}
theorem mon_ms (A : Apart a) : Mon (DMs a) := fun x y H H' e ⟨m, d⟩ => ⟨m, mon_ins (fun _ _ _ _ e ⟨m, h1, h2⟩ => ⟨m, h1.mono A (ExT.of e), h2.mono A (ExT.of e)⟩) x y H H' e d⟩
theorem eqG_ms {X : Cx} (EM : EqM X.prog X.w X.K X.mg X.base a) : EqG X 4 (DMs a) := fun A pins s σ H x y u v sb I rx ry ⟨m, d⟩ => by
  obtain ⟨f, fd, F, h1, h2, h3⟩ := EM.ex
  exact eqG_ins (E := C8.E0) F (h3 m) h1 h2 (fun _ _ _ _ _ _ _ h => h.elim) A pins s σ H x y u v sb I rx ry d
def DRw (K : PySem.W.Frag) : Eqv := fun x y H => DFb x y H ∨ DTup K (fun x y H => DFb x y H ∨ DTup K DFb x y H) x y H
theorem mon_rw : Mon (DRw K) := Mon.or mon_fb (mon_tup (Mon.or mon_fb (mon_tup mon_fb)))
theorem eqG_rw {X : Cx} : EqG X 2 (DRw X.K) := EqG.or eqG_fb (eqG_tup (Mon.or mon_fb (mon_tup mon_fb)) (EqG.or eqG_fb (eqG_tup mon_fb (n := 0) eqG_fb)))
theorem en_flat (e : En) : ∀ x ∈ enV e, flatB x = true := by
  cases e <;> simp [enV, thV, fiV, flatB]
theorem rows_prs {H : Hp} {xs ys : List V} {r : List (Path × En)} (h1 : RowsA K H xs r) (h2 : RowsA K H ys r) : Prs (DRw K) xs ys H := by
  refine ⟨by rw [paired_len h1, paired_len h2], fun i x y hx hy => ?_⟩
  obtain ⟨pe, hpe, b, t, rfl, hb, bt, rfl, ht⟩ := paired_get h1 hx
  obtain ⟨pe', hpe', b', t', rfl, hb', bt', rfl, ht'⟩ := paired_get h2 hy
  rw [hpe] at hpe'
  cases hpe'
  refine Or.inr ⟨b, b', _, _, rfl, rfl, st_of hb, st_of hb', Prs.cons (Or.inl ⟨rfl, rfl⟩) (Prs.cons (Or.inr ⟨bt, bt', _, _, rfl, rfl, ht.sq, ht'.sq, rfl, fun j u v hu hv => ?_⟩) Prs.nil)⟩
  rw [hu] at hv
  cases hv
  exact ⟨rfl, en_flat _ _ (List.mem_of_getElem? hu)⟩
theorem mem_prs {H : Hp} {xs ys : List V} {ms : List Mem} (h1 : MsA a H xs ms) (h2 : MsA a H ys ms) : Prs (DMs a) xs ys H := by
  refine ⟨by rw [paired_len h1, paired_len h2], fun i x y hx hy => ?_⟩
  obtain ⟨m, hm, q1, rfl, a1⟩ := paired_get h1 hx
  obtain ⟨m', hm', q2, rfl, a2⟩ := paired_get h2 hy
  rw [hm] at hm'
  cases hm'
  obtain ⟨dx, key, pt, g1, _⟩ := a1.ex
  obtain ⟨dy, key2, pt2, g2, _⟩ := a2.ex
  exact ⟨m, q1, q2, dx, dy, _, _, rfl, rfl, g1, g2, m, a1, a2⟩
theorem es_lcI {l : Addr} {σ : L2.St} {H : Hp} {tl te : TE} {g : TG} {tt : TT} {vs : List Nat} {Pl R : List V → Hp → Prop} (h : EvS l tl σ H (fun v H' => ∃ p xs, v = .ref p ∧ H' p = some (.lst xs) ∧ Pl xs H')) (k : ∀ p xs H1, KE l H H1 → H1 p = some (.lst xs) → Pl xs H1 → EvN (tLc (iList K (tC (.ref p))) g tt te vs) σ H1 R) :
    EvS l (tLc (iList K tl) g tt te vs) σ H (fun v H' => ∃ p ys, v = .ref p ∧ H p = none ∧ H' p = some (.lst ys) ∧ R ys H') := fun H1 e Q q =>
  h H1 e _ fun v H2 e2 p => by
    obtain ⟨p, xs, rfl, hx, hl⟩ := p
    have r := (k p xs H2 (e.trans e2) hx hl) H2 (Ex.refl H2) Q fun p2 ys H3 hp2 e3 hy hr => q _ _ (e2.trans (KE.of e2.2 e3)) ⟨p2, ys, rfl, (e.trans e2).fresh hp2, hy, hr⟩
    exact r
theorem q_forR2 {σ : L2.St} {H : Hp} {D : Ends} {tz tu : TS} {g : TG} {tl : TA} {lo n : Nat} (h : EvA tl σ H [vN lo, vN (lo + n)]) (hn : lo + n ≤ 100000) (Pv : Nat → L2.St → Hp → Prop) (h0 : ∀ H1, Ex H H1 → Pv 0 σ H1)
    (step : ∀ (i : Nat) (σ' : L2.St) (H' : Hp), i < n → Pv i σ' H' → g (vN (lo + i)) σ' H' fun σ2 H2 => tu { nx := Pv (i + 1), rt := D.rt, bk := tz D, ct := Pv (i + 1) } σ2 H2) (fin : ∀ σ' H', Pv n σ' H' → tz D σ' H') : tSeq (tFor (iRng2 tl) g tu) tz D σ H :=
  h H (Ex.refl H) _ fun H1 e1 => ⟨(lo : Int), ((lo + n : Nat) : Int), rfl, by omega, by
    have e : (((lo + n : Nat) : Int) - (lo : Int)).toNat = n := by omega
    rw [e]
    exact for_it (D := { D with nx := tz D }) (n := n) walk_range Pv (h0 H1 e1) (fun _ _ _ _ _ => trivial) (fun i x σ' H' H'' hi p y => by
      obtain ⟨rfl, rfl⟩ := y
      have h := step i σ' H'' hi p
      show g (V.int ((lo : Int) + (i : Int))) σ' H'' _
      rw [← Int.natCast_add]
      exact h) fin⟩
theorem s_forR {σ : L2.St} {H : Hp} {D : Ends} {tu : TS} {g : TG} {te : TE} {n : Nat} (h : Ev te σ H (vN n)) (hn : n ≤ 100000) (Pv : Nat → L2.St → Hp → Prop) (h0 : ∀ H1, Ex H H1 → Pv 0 σ H1)
    (step : ∀ (i : Nat) (σ' : L2.St) (H' : Hp), i < n → Pv i σ' H' → g (vN i) σ' H' fun σ2 H2 => tu { nx := Pv (i + 1), rt := D.rt, bk := D.nx, ct := Pv (i + 1) } σ2 H2) (fin : ∀ σ' H', Pv n σ' H' → D.nx σ' H') : tFor (iRng1 (tCons te tNil)) g tu D σ H :=
  q_forR (tz := tNext) (D := D) h hn Pv h0 step fin
theorem KE.ext {l : Addr} {H H' : Hp} (s : Src H l) (k : KE l H H') : ExT a H H' := fun p o h st => k.1 p o (fun z => by
  obtain ⟨x, y, w, g, _⟩ := s
  rw [z, g] at h
  cases h
  exact stay_lst st) h
theorem src_ne {l p : Addr} {H : Hp} {xs : List V} (s : Src H l) (h : H p = some (.lst xs)) (hx : ∀ v ∈ xs, ∃ q, v = .ref q) : p ≠ l := fun z => by
  obtain ⟨x, y, w, g, _⟩ := s
  rw [z, g] at h
  cases h
  obtain ⟨q, hq⟩ := hx _ (List.mem_cons_self ..)
  cases hq
theorem ep_lcI {σ : L2.St} {H : Hp} {tl te : TE} {g : TG} {tt : TT} {vs : List Nat} {Pl R : List V → Hp → Prop} (h : EvP tl σ H (fun v H' => ∃ p xs, v = .ref p ∧ H' p = some (.lst xs) ∧ Pl xs H')) (k : ∀ p xs H1, Ex H H1 → H1 p = some (.lst xs) → Pl xs H1 → EvN (tLc (iList K (tC (.ref p))) g tt te vs) σ H1 R) :
    EvN (tLc (iList K tl) g tt te vs) σ H R := fun H1 e Q q =>
  h H1 e _ fun v H2 e2 p => by
    obtain ⟨p, xs, rfl, hx, hl⟩ := p
    have r := (k p xs H2 (e.trans e2) hx hl) H2 (Ex.refl H2) Q fun p2 ys H3 hp2 e3 hy hr => q p2 ys H3 (fresh_back e2 hp2) (e2.trans e3) hy hr
    exact r
theorem es_pl {l : Addr} {σ : L2.St} {H : Hp} {i : Nat} (hi : σ[i]? = some (some (.ref l))) : EvS l (tCall spPl [] C8.E0 (tCons (tVar i) (tCons (tC (.int 6)) tNil))) σ H (fun v H' => ∃ p xs, v = .ref p ∧ H' p = some (.lst xs) ∧ ∃ ms, OnesAt H' xs ms ∧ (∀ m ∈ ms, m.Ok) ∧ ms.length ≤ 6) := fun H1 e Q q =>
  ⟨_, hi, l, 6, rfl, e.2, by decide, fun p xs ms H' hp k h1 h2 h3 h4 => q _ H' k ⟨p, xs, rfl, h1, ms, h2, h3, h4⟩⟩
theorem itm_ms {H : Hp} {ys : List V} {ms : List Mem} (h : Itm ms.length (fun i v H' => (ms[i]?).elim False fun m => ∃ q, v = .ref q ∧ MemAt a H' q m) ys H) : MsA a H ys ms := paired_of h.1 fun i v m hv hm => by
  have h2 : (ms[i]?).elim False fun m => ∃ q, v = .ref q ∧ MemAt a H q m := h.2 i v hv
  rw [hm] at h2
  exact h2
theorem ms_st (A : Apart a) {ms : List Mem} (i : Nat) : St1 (fun v H' => (ms[i]?).elim False fun m => ∃ q, v = .ref q ∧ MemAt a H' q m) := fun v H H' e h => by
  cases hm : ms[i]? with
  | none => rw [hm] at h; exact h
  | some m =>
    rw [hm] at h
    obtain ⟨q, h1, h2⟩ := h
    exact ⟨q, h1, h2.mono A fun p o ho s => e p o ho fun xs z => stay_lst (z ▸ s)⟩
abbrev nm_law : List Str := ["_law_script", "_law_k", "_law_source_here", "_law_turn", "_law_some", "_law_data_here", "_law_houses", "_law_refused", "_law_one", "_law_more", "_law_cut", "_law_read_here", "_law_many", "_law_spot"]
theorem sc_law : FnScope nm_law ["_law_script"] (defScope s_law) := fnScope_by (by decide +kernel)
abbrev rLaw (K : PySem.W.Frag) : List V → Hp → V → Prop := fun vs H z => ∃ l ns, vs = [.ref l] ∧ SqL K H l (ns.map V.int) ∧ List.length ns ≤ 63 ∧ z = .bl true
theorem ok_law {fL : Addr} {fdL : FuncData} (T : Txt K mg a) (M : Mcl K a) (EM : EqM P w K mg base a) (F : L2.Fun K "law" "law" s_law fL fdL) (c_law_source : Cal P w K mg base 1 "_law_source" (spP 2 (rSrc K)) []) (c_law_draw : Cal P w K mg base 1 "_law_draw" spDr []) (c_law_plain_list : Cal P w K mg base 3 "_law_plain_list" spPl [])
    (c_law_made : Cal P w K mg base 6 "_law_made" (spP 1 (rMade a)) []) (c_written : Cal P w K mg base 5 "written" (spV 1 fun vs H z => ∃ l xs ms, vs = [.ref l] ∧ H l = some (.lst xs) ∧ MsA a H xs ms ∧ (∀ m ∈ ms, m.Ok) ∧ ms.length ≤ 20 ∧ z = vB (arcB ms)) []) (c_law_walk : Cal P w K mg base 8 "_law_walk" (spWalk K a) []) (c_law_house : Cal P w K mg base 7 "_law_house" (spLH K a) [])
    (c_law_is_small_step : Cal P w K mg base 3 "_law_is_small_step" (spV 3 (rSt K)) []) (c_scan : Cal P w K mg base 9 "scan" (spP 2 (rScan a)) [.int 0]) :
    FnOk P w K mg base C8.CX0 12 fL fdL ["_law_script"] (spV 1 (rLaw K)) := by
  refine F.ok sc_law (fun _ _ _ _ h => h.1) fun cdv A outer s H vs Q E hr h => ⟨_, (pss_cons (ps_for PassesOwn.never rfl (pi_range1 (by rfl) T.b_range (pa_cons (pe_callB (call_max2 rfl) (by rfl) T.b_max (by decide +kernel) (pa_cons pe_int (pa_cons (pe_callB (call_min2 rfl) (by rfl) T.b_min (by decide +kernel) (pa_cons pe_int (pa_cons (pe_callB call_len (by rfl) T.b_len PySem.boot_len (pa_cons (pv 0) pa_nil)) pa_nil))) pa_nil))) pa_nil)) (pg_name (i := 1) sc_law.nd rfl (Or.inl rfl)) (pss_cons (ps_set (i := 2) sc_law.nd rfl (Or.inl rfl) (C8.pe_c c_law_source hr (by decide) rfl (pa_cons (pv 0) (pa_cons (pv 1) pa_nil))))
    (pss_one (ps_for PassesOwn.never rfl (pi_range1 (by rfl) T.b_range (pa_cons pe_int pa_nil)) (pg_name (i := 3) sc_law.nd rfl (Or.inl rfl)) (pss_cons (ps_setLc (i := 4) (own := [("_law_one", 8)]) (g := (gName 8)) (tt := tYes) rfl sc_law.nd rfl rfl (sw_true rfl rfl rfl (by decide +kernel)) (pi_list (C8.pe_c c_law_plain_list hr (by decide) rfl (pa_cons (pv 2) (pa_cons pe_int pa_nil)))) (blkOk_by (own := [("_law_one", 8)]) (N := nm_law) (sc := defScope s_law) (by decide +kernel)) (fun _ _ _ _ _ => (pg_name (i := 8) sc_law.nd rfl (Or.inl rfl))) (fun _ _ _ _ _ => pts_nil) (fun _ _ _ _ _ => (C8.pe_c c_law_made hr (by decide) rfl (pa_cons (pv 8) pa_nil))))
    (pss_cons (ps_set (i := 5) sc_law.nd rfl (Or.inl rfl) (C8.pe_c c_written hr (by decide) rfl (pa_cons (pv 4) pa_nil)))
    (pss_cons (ps_asg (C8.pe_c c_law_walk hr (by decide) rfl (pa_cons (pv 4) pa_nil)) (pg_tup rfl (pgs_cons (pg_name (i := 6) sc_law.nd rfl (Or.inl rfl)) (pgs_cons (pg_name (i := 7) sc_law.nd rfl (Or.inl rfl)) pgs_nil))))
    (pss_cons (ps_for PassesOwn.never rfl (pi_range2 (by rfl) T.b_range (pa_cons pe_int (pa_cons (pe_callB call_len (by rfl) T.b_len PySem.boot_len (pa_cons (pv 6) pa_nil)) pa_nil))) (pg_name (i := 8) sc_law.nd rfl (Or.inl rfl)) (pss_one (ps_if (pt_not (pt_val (C8.pe_c c_law_is_small_step hr (by decide) rfl (pa_cons (pe_ix ix_seq (pv 6) (pe_op op_sub (pv 8) pe_int) (fun _ _ => rfl)) (pa_cons (pe_ix ix_seq (pv 6) (pv 8) (fun _ _ => rfl)) (pa_cons (pe_fld (pe_ix ix_seq (pv 4) (pe_op op_sub (pv 8) pe_int) (fun _ _ => rfl)) rfl) pa_nil)))))) (pss_one (ps_ret pe_bl)) pss_nil)))
    (pss_one (ps_for PassesOwn.never rfl (pi_range1 (by rfl) T.b_range (pa_cons pe_int pa_nil)) (pg_name (i := 9) sc_law.nd rfl (Or.inl rfl)) (pss_cons (ps_set (i := 10) sc_law.nd rfl (Or.inl rfl) (C8.pe_c c_law_draw hr (by decide) rfl (pa_cons (pv 2) (pa_cons (pe_op op_add (pe_callB call_len (by rfl) T.b_len PySem.boot_len (pa_cons (pv 5) pa_nil)) pe_int) pa_nil))))
    (pss_cons (ps_set (i := 10) sc_law.nd rfl (Or.inl rfl) (pe_ix ix_seq (pe_lst (pa_cons (pv 10) (pa_cons (pe_op op_mulW (pe_op op_fdiv (pv 10) pe_int) pe_int) (pa_cons (pe_callB call_len (by rfl) T.b_len PySem.boot_len (pa_cons (pv 5) pa_nil)) pa_nil)))) (C8.pe_c c_law_draw hr (by decide) rfl (pa_cons (pv 2) (pa_cons pe_int pa_nil))) (fun _ _ => rfl)))
    (pss_cons (ps_setLc (i := 11) (own := [("_law_spot", 13), ("_law_one", 8)]) (g := (gTup K 2 (gCons (gName 13) (gCons (gName 8) gNil)))) (tt := tYes) rfl sc_law.nd rfl rfl (sw_true rfl rfl rfl (by decide +kernel)) (pi_list (pe_ix ix_seq (C8.pe_c c_scan hr (by decide) rfl (pa_cons (pe_slice sl_byt (pv 5) po_none (po_some (pv 10))) pa_nil)) pe_int (fun _ _ => rfl))) (blkOk_by (own := [("_law_spot", 13), ("_law_one", 8)]) (N := nm_law) (sc := defScope s_law) (by decide +kernel)) (fun _ _ _ _ _ => (pg_tup rfl (pgs_cons (pg_name (i := 13) sc_law.nd rfl (Or.inl rfl)) (pgs_cons (pg_name (i := 8) sc_law.nd rfl (Or.inl rfl)) pgs_nil)))) (fun _ _ _ _ _ => pts_nil) (fun _ _ _ _ _ => (pv 8)))
    (pss_cons (ps_set (i := 12) sc_law.nd rfl (Or.inl rfl) (pe_callB call_len (by rfl) T.b_len PySem.boot_len (pa_cons (pv 11) pa_nil)))
    (pss_cons (ps_if (pt_cmpR (op_neG (n := 5) (rcN_list (mon_ms M.ap) (eqG_ms EM)) (hr.mono (by decide))) (pv 11) (pe_slice sl_list (pv 4) po_none (po_some (pv 12))) (nomark _)) (pss_one (ps_ret pe_bl)) pss_nil)
    (pss_one (ps_if (pt_cmpR (op_neG (n := 3) (rcN_list mon_rw eqG_rw) (hr.mono (by decide))) (C8.pe_c c_law_house hr (by decide) rfl (pa_cons (pv 11) pa_nil)) (pe_ifExp (pt_cmpR op_lt (pv 12) (pe_callB call_len (by rfl) T.b_len PySem.boot_len (pa_cons (pv 6) pa_nil)) (nomark _)) (pe_ix ix_seq (pv 6) (pv 12) (fun _ _ => rfl)) (pv 7)) (nomark _)) (pss_one (ps_ret pe_bl)) pss_nil)))))))))))))))))
    (pss_one (ps_ret pe_bl))), ?_⟩
  obtain ⟨_, _, ⟨l0, ns, rfl, hl0, hns, rfl⟩, q⟩ := h
  refine q_forR (n := max 1 (min 3 ns.length)) (ev_is (ev_cb (ea_cons ev_c (ea_cons (ev_cb (ea_cons ev_c (ea_cons (ev_lenL (ev_var rfl) hl0) ea_nil)) fun H1 _ Q q => ⟨3, ((ns.map V.int).length : Int), rfl, q H1 (Ex.refl H1)⟩) ea_nil)) fun H1 _ Q q => ⟨1, _, rfl, q H1 (Ex.refl H1)⟩) (by rw [List.length_map]; congr 1; omega)) (by omega) (fun i σ' H' => (∃ u1 u2 u3 u4 u5 u6 u7 u8 u9 u10 u11 u12 u13, σ' = [some (.ref l0), u1, u2, u3, u4, u5, u6, u7, u8, u9, u10, u11, u12, u13]) ∧ Ex H H') (fun H1 e1 => ⟨⟨_, _, _, _, _, _, _, _, _, _, _, _, _, rfl⟩, e1⟩) ?_ ?_
  · rintro k σ' H1 hk ⟨⟨u1, u2, u3, u4, u5, u6, u7, u8, u9, u10, u11, u12, u13, rfl⟩, e1⟩
    refine q_asgP (P := fun v H' => ∃ l, v = .ref l ∧ H1 l = none ∧ Src H' l) (ep_call (ea_p (ea_cons (ev_var rfl) (ea_cons (ev_var rfl) ea_nil))) fun vs H2 e2 hvs => ⟨by rw [hvs]; rfl, l0, ns, k, hvs, ex_l (e1.trans e2) hl0, hns, fun p H' hp hs => ⟨p, rfl, fresh_back e2 hp, hs⟩⟩) fun v H2 e2 hv => ?_
    obtain ⟨l, rfl, hl1, hs2⟩ := hv
    -- all that was there at H1 stays through the source's changes
    have back : ∀ {H' : Hp}, KE l H2 H' → Ex H H' := fun kk b o h => kk.1 b o (fun z => by rw [z] at h; rw [e1 _ _ h] at hl1; cases hl1) (e2 _ _ (e1 _ _ h))
    refine s_forR (n := 2) ev_c (by decide) (fun i σ' H' => (∃ u3 u4 u5 u6 u7 u8 u9 u10 u11 u12 u13, σ' = [some (.ref l0), some (vN k), some (.ref l), u3, u4, u5, u6, u7, u8, u9, u10, u11, u12, u13]) ∧ KE l H2 H') (fun H3 e3 => ⟨⟨_, _, _, _, _, _, _, _, _, _, _, rfl⟩, KE.of hs2 e3⟩) ?_ ?_
    · rintro tn σ' H3 htn ⟨⟨u3, u4, u5, u6, u7, u8, u9, u10, u11, u12, u13, rfl⟩, k3⟩
      refine q_asgS (P := fun v H' => ∃ p xs ms, v = .ref p ∧ H' p = some (.lst xs) ∧ MsA a H' xs ms ∧ (∀ m ∈ ms, m.Ok) ∧ ms.length ≤ 6) ?_ k3.2 fun v H4 k4 hv => ?_
      · refine (es_lcI (R := fun ys H' => ∃ ms, MsA a H' ys ms ∧ (∀ m ∈ ms, m.Ok) ∧ ms.length ≤ 6) (es_pl rfl) fun p xs H4 k4 hp ⟨ms, ho, hok, hl⟩ => ?_).imp fun v H4 k4 ⟨p, ys, h1, h2, h3, ms, h4⟩ => ⟨p, ys, ms, h1, h3, h4⟩
        have hxl := paired_len ho
        refine (ep_lc (fun i v H' => (ms[i]?).elim False fun m => ∃ q, v = .ref q ∧ MemAt a H' q m) (ms_st M.ap) (ei_list ev_c (sq_of hp)) (by omega) ex_at fun i x H5 H6 hi e hy => ?_).imp fun ys H5 e5 h => ⟨ms, itm_ms (by rw [hxl] at h; exact h), hok, hl⟩
        obtain ⟨rfl, hy⟩ := hy
        obtain ⟨m, hm, q1, rfl, ho1⟩ := paired_get ho hy
        refine ⟨_, fun Kk hk => hk _ (Ex.refl _), rfl, ep_call (ea_p (ea_cons (ev_var rfl) ea_nil)) fun vs H7 e7 hvs => ⟨by rw [hvs]; rfl, q1, m, hvs, ho1.mono (e.trans e7), hok m (List.mem_of_getElem? hm), fun p H' _ hmm => ?_⟩⟩
        rw [hm]
        exact ⟨p, rfl, hmm⟩
      obtain ⟨sp, xs, ms, rfl, hsp, hxm, hok, hml⟩ := hv
      have hxl := paired_len hxm
      refine q_asg (v := vB (arcB ms)) (ev_callV (ea_cons (ev_var rfl) ea_nil) rfl fun H5 e5 => ⟨sp, xs, ms, rfl, e5 _ _ hsp, hxm.mono M.ap (ExT.of e5), hok, by omega, rfl⟩) fun H5 e5 => ?_
      have k5 := (k3.trans k4).trans (KE.of k4.2 e5)
      refine ⟨.ref sp, rfl, sp, xs, ms, rfl, e5 _ _ hsp, hxm.mono M.ap (ExT.of e5), hok, by omega, fun t fo fs z H6 e6 ht hf hrows hz => ⟨t, _, rfl, st_of ht, rfl, _, _, rfl, _, _, rfl, rfl, ?_⟩⟩
      have k6 := k5.trans (KE.of k5.2 e6)
      have hT : [] :: (walkH .emp 0 ms).1.map HS.rows = (tow .emp 0 ms).map HS.rows := by
        unfold tow
        rw [List.map_cons]
        rfl
      rw [hT] at hrows
      have hfl : fs.length = (tow .emp 0 ms).length := by rw [paired_len hrows, List.length_map]
      have htl := tow_len (ms := ms) (S := .emp) (i := 0)
      have ht1 : 1 ≤ (tow .emp 0 ms).length := by unfold tow; simp
      have hs6 : H6 sp = some (.lst xs) := e6 _ _ (e5 _ _ hsp)
      have hx6 : MsA a H6 xs ms := hxm.mono M.ap (ExT.of (e5.trans e6))
      -- the house behind so many members
      have hou : ∀ {j : Nat} {v : V}, fs[j]? = some v → ∃ S qh rs, (tow .emp 0 ms)[j]? = some S ∧ v = .ref qh ∧ H6 qh = some (.lst rs) ∧ RowsA K H6 rs S.rows := fun {j v} hj => by
        obtain ⟨r, hr, qh, rs, h1, _, h3, h4⟩ := paired_get hrows hj
        rw [List.getElem?_map] at hr
        obtain ⟨S, hS, rfl⟩ := Option.map_eq_some_iff.mp hr
        exact ⟨S, qh, rs, hS, h1, h3, h4⟩
      refine q_forR2 (lo := 1) (n := fs.length - 1) (ea_cons ev_c (ea_cons (ev_is (ev_lenL (ev_var rfl) (sq_of hf)) (by congr 1; omega)) ea_nil)) (by omega) (fun i σ' H' => (∃ u8, σ' = [some (.ref l0), some (vN k), some (.ref l), some (vN tn), some (.ref sp), some (vB (arcB ms)), some (.ref fo), some z, u8, u9, u10, u11, u12, u13]) ∧ Ex H6 H') (fun H7 e7 => ⟨⟨_, rfl⟩, e7⟩) ?_ ?_
      · rintro i σ' H7 hi ⟨⟨u8, rfl⟩, e7⟩
        obtain ⟨S0', q0, rs0, hS0, hq0, hr0, hR0⟩ := hou (j := i) (List.getElem?_eq_getElem (by omega))
        obtain ⟨S1, q1, rs1, hS1, hq1, hr1, hR1⟩ := hou (j := i + 1) (List.getElem?_eq_getElem (by omega))
        obtain ⟨m, S0, hm, hS, rfl, W, hmo⟩ := tow_at (wf_emp 0) hok hS1
        rw [hS0] at hS
        cases hS
        have W1 := wf_put W hmo.base.nm
        have hi3 : i < xs.length := by rw [hxl]; exact (List.getElem?_eq_some_iff.mp hm).1
        obtain ⟨m', hm', qm, hqm, hMem⟩ := paired_get hx6 (List.getElem?_eq_getElem hi3)
        rw [hm] at hm'
        cases hm'
        have one : ∀ {σ' : L2.St}, σ'[8]? = some (some (vN (1 + i))) → Ev (tOp (rI0 fun i j => V.int (i - j)) (tVar 8) (tC (.int 1))) σ' H7 (vN i) := fun hv => ev_is (ev_I (g := fun i j => i - j) (ev_var hv) ev_c) (congrArg V.int (by omega))
        refine s_when (b := false) (et_nT (et_B (ev_callV (z := .bl true) (vs := [.ref q0, .ref q1, vS m.nm]) (ea_cons (ev_op (ev_var rfl) (one rfl) (rv_ixl (sq_of (e7 _ _ hf)) (atI_nat (i := i) (by rw [List.getElem?_eq_getElem (show i < fs.length by omega), hq0])))) (ea_cons (ev_op (ev_var rfl) (ev_var rfl) (rv_ixl (sq_of (e7 _ _ hf)) (atI_nat (i := 1 + i) (by rw [Nat.add_comm, List.getElem?_eq_getElem (show i + 1 < fs.length by omega), hq1])))) (ea_cons (ev_name M (hMem.mono M.ap (ExT.of e7)) (ev_op (ev_var rfl) (one rfl) (rv_ixl (sq_of (e7 _ _ hs6)) (atI_nat (i := i) (by rw [List.getElem?_eq_getElem hi3, hqm]))))) ea_nil))) rfl fun H8 e8 => ?_))) (fun h => nomatch h) fun _ H8 e8 => ⟨⟨_, rfl⟩, e7.trans e8⟩
        have e78 := e7.trans e8
        have r0 := rows_len W
        have r1 := rows_len W1
        exact ⟨q0, q1, rs0, rs1, S0'.rows, (S0'.put m).rows, m.nm, rfl, e78 _ _ hr0, e78 _ _ hr1, hR0.mono (a := a) (ExT.of e78), hR1.mono (a := a) (ExT.of e78), rows_nd W, by omega, by omega, fun pe hpe => lab_len _ (rows_lab W1 pe hpe), lab_len _ hmo.base.nm, small_A W W1 hmo.base.nm, small_B W W1, rfl⟩
      · rintro σ' H7 ⟨⟨u8, rfl⟩, e7⟩
        have k7 := k6.trans (KE.of k6.2 e7)
        refine s_forR (n := 6) ev_c (by decide) (fun i σ' H' => (∃ u8 u9 u10 u11 u12 u13, σ' = [some (.ref l0), some (vN k), some (.ref l), some (vN tn), some (.ref sp), some (vB (arcB ms)), some (.ref fo), some z, u8, u9, u10, u11, u12, u13]) ∧ KE l H7 H') (fun H8 e8 => ⟨⟨_, _, _, _, _, _, rfl⟩, KE.of k7.2 e8⟩) ?_ fun σ' H8 ⟨⟨u8, u9, u10, u11, u12, u13, h⟩, k8⟩ => ⟨⟨_, _, _, _, _, _, _, _, _, _, _, h⟩, k7.trans k8⟩
        rintro mn σ' H8 hmn ⟨⟨u8, u9, u10, u11, u12, u13, rfl⟩, k8⟩
        have hal := arc_le hok (show ms.length ≤ 10 by omega)
        refine q_asgS (P := fun v _ => ∃ c, c ≤ 20000 ∧ v = vN c) ((es_draw (k := (arcB ms).length + 1) rfl (by omega) (by
          have := (Nat.log2_lt (n := (arcB ms).length + 1) (k := 15) (by omega)).mpr (by show _ < 32768; omega)
          omega) fun H9 _ => ev_is (ev_I (g := fun i j => i + j) (ev_lenB (ev_var rfl) (by rw [szB]; omega)) ev_c) (by rw [szB]; rfl)).imp fun v _ _ ⟨r, h1, h2⟩ => ⟨r, by omega, h2⟩) k8.2 fun v H9 k9 hv => ?_
        obtain ⟨c0, hc0, rfl⟩ := hv
        refine q_asgS (P := fun v _ => ∃ c, v = vN c) (es_pick (n := 3) (eas_cons (es_of fun H1 _ => ev_p (ev_var rfl)) fun x1 _ _ h1 => eas_cons (es_of fun H1 _ => ev_p (v := vN (c0 / 512 * 512)) (ev_is (ev_IC (g := fun i j => i * j) (ev_IC (g := fun i j => i / j) (j := 512) (ev_var rfl) ev_c ⟨by decide, by decide⟩) ev_c ?_) (congrArg V.int (by omega)))) fun x2 _ _ h2 => eas_cons (es_of fun H1 _ => ev_p (v := vN (arcB ms).length) (ev_is (ev_lenB (ev_var rfl) (by rw [szB]; omega)) (by rw [szB]))) fun x3 _ _ h3 => eas_nil fun _ _ => ⟨rfl, ?_⟩) (fun H1 _ => es_draw rfl (by decide) (by decide +kernel) fun _ _ => ev_c) (by decide)) k9.2 fun v H10 k10 hv => ?_
        · refine wide_mul (a := 20) (b := 20) ?_ (by decide) (by decide) (by decide) (by decide)
          show ((c0 : Int) / 512).natAbs < 2 ^ 20
          omega
        · intro v hv
          simp only [h1, h2, h3, List.mem_cons, List.not_mem_nil, or_false] at hv
          rcases hv with rfl | rfl | rfl
          · exact ⟨_, rfl⟩
          · exact ⟨_, rfl⟩
          · exact ⟨_, rfl⟩
        obtain ⟨c, rfl⟩ := hv
        have k70 := (k8.trans k9).trans k10
        have k2 := (k7.trans k70)
        have k610 : KE l H6 H10 := (KE.of k6.2 e7).trans k70
        have t6 : ExT a H6 H10 := KE.ext k6.2 k610
        have hsl : sp ≠ l := src_ne k6.2 hs6 fun v hv => by
          obtain ⟨i, hi⟩ := List.mem_iff_getElem?.mp hv
          obtain ⟨m, _, q1, h1, _⟩ := paired_get hx6 hi
          exact ⟨q1, h1⟩
        have hfol : fo ≠ l := src_ne k6.2 hf fun v hv => by
          obtain ⟨i, hi⟩ := List.mem_iff_getElem?.mp hv
          obtain ⟨S, qh, rs, _, h1, _⟩ := hou hi
          exact ⟨qh, h1⟩
        have hs10 : H10 sp = some (.lst xs) := k610.1 _ _ hsl hs6
        have hf10 : H10 fo = some (.lst fs) := k610.1 _ _ hfol hf
        have hx10 : MsA a H10 xs ms := hx6.mono M.ap t6
        refine q_asgP (P := fun v H' => ∃ p ys n, v = .ref p ∧ n ≤ ms.length ∧ H' p = some (.lst ys) ∧ MsA a H' ys (ms.take n)) ((EvN.p (ep_lcI (Pl := fun xs H' => ∃ n, n ≤ ms.length ∧ RdL a H' xs (ms.take n)) (R := fun ys H' => ∃ n, n ≤ ms.length ∧ MsA a H' ys (ms.take n)) ?_ ?_)).imp fun v H11 e11 ⟨p, ys, h1, _, h2, n, h3, h4⟩ => ⟨p, ys, n, h1, h3, h2, h4⟩) fun v H11 e11 hv => ?_
        · intro H1 e Q q
          have hA : EvA (tCons (tSl rSlB (tVar 5) tNoPart (tPart (tVar 10))) tNil) [some (.ref l0), some (vN k), some (.ref l), some (vN tn), some (.ref sp), some (vB (arcB ms)), some (.ref fo), some z, u8, some (vN mn), some (vN c), u11, u12, u13] H10 [vB ((arcB ms).take c)] := ea_cons (ev_slBto (l := arcB ms) (j := c) (ev_var rfl) (eo_some (ev_var rfl)) (by omega)) ea_nil
          have r := hA H1 e (fun vs H2 => spP 2 (rScan a) (vs ++ [.int 0]) H2 (fun x H3 => rIx K x (.int 0) H3 Q) C8.E0) fun H2 e2 => ⟨rfl, fun v H' => ∃ t fo es tr n, v = .ref t ∧ n ≤ ms.length ∧ H' t = some (.tup [.ref fo, tr]) ∧ H' fo = some (.lst es) ∧ RdL a H' es (ms.take n), ⟨ms, c, rfl, hok, by omega, fun t fo es tr n H' h1 h2 h3 h4 => ⟨t, fo, es, tr, n, rfl, h1, h2, h3, h4⟩⟩, fun zz H3 e3 hz => ?_⟩
          · exact r
          obtain ⟨t, fo2, es, tr, n, rfl, h1, h2, h3, h4⟩ := hz
          exact rv_ixt (K := K) (st_of h2) atI0 H3 (Ex.refl H3) Q fun H4 e4 => q _ H4 ((e2.trans e3).trans e4) ⟨fo2, es, rfl, e4 _ _ h3, n, h1, h4.mono M.ap (ExT.of e4)⟩
        · rintro p es H12 e12 hp ⟨n, hn, hR⟩
          have hel := paired_len hR
          have htl2 : (ms.take n).length ≤ 6 := by rw [List.length_take]; omega
          refine (ep_lc (fun i v H' => ((ms.take n)[i]?).elim False fun m => ∃ q, v = .ref q ∧ MemAt a H' q m) (ms_st M.ap) (ei_list ev_c (sq_of hp)) (by omega) ex_at fun i x H5 H6 hi e hy => ?_).imp fun ys H5 e5 h => ⟨n, hn, itm_ms (by rw [hel] at h; exact h)⟩
          obtain ⟨rfl, hy⟩ := hy
          obtain ⟨m, hm, tq, o, pm, rfl, htq, hmm⟩ := paired_get hR hy
          refine turn_pair (e _ _ htq) rfl ?_
          refine (ev_p (ev_var rfl)).imp fun v H7 e7 hv => ?_
          rw [hm]
          exact ⟨pm, hv, hmm.mono M.ap (ExT.of (e.trans e7))⟩
        obtain ⟨rp, ys, n, rfl, hn, hrp, hys⟩ := hv
        have hyl : ys.length = n := by rw [paired_len hys, List.length_take]; omega
        refine q_asg (v := vN n) (ev_is (ev_lenL (ev_var rfl) (sq_of hrp)) (by rw [hyl])) fun H12 e12 => ?_
        have e1012 := e11.trans e12
        have sl : EvL (tSl (rSlL K) (tVar 4) tNoPart (tPart (tVar 12))) [some (.ref l0), some (vN k), some (.ref l), some (vN tn), some (.ref sp), some (vB (arcB ms)), some (.ref fo), some z, u8, some (vN mn), some (vN c), some (.ref rp), some (vN n), u13] H12 (xs.take n) := by
          have h := el_sl (K := K) (σ := [some (.ref l0), some (vN k), some (.ref l), some (vN tn), some (.ref sp), some (vB (arcB ms)), some (.ref fo), some z, u8, some (vN mn), some (vN c), some (.ref rp), some (vN n), u13]) (H := H12) (te := tVar 4) (tl := tNoPart) (th := tPart (tVar 12)) (lo := none) (hi := some (n : Int)) (ev_var rfl) eo_none (eo_some (ev_var rfl)) (sq_of (e1012 _ _ hs10))
          rwa [cut_take] at h
        refine q_when (b := false) (et_test (ev_opL (ev_var rfl) sl fun p H13 h13 e13 => rv_neG (mon_list (mon_ms M.ap)) ⟨rp, p, ys, xs.take n, rfl, rfl, e13 _ _ (e12 _ _ hrp), h13, mem_prs (hys.mono M.ap (ExT.of (e12.trans e13))) (MsA.mono M.ap (ExT.of (e1012.trans e13)) (paired_take n hx10))⟩)) (fun h => nomatch h) fun _ H13 e13 => ?_
        have e1013 := e1012.trans e13
        refine s_when (b := false) (et_test fun H14 e14 Q14 q14 => ?_) (fun h => nomatch h) fun _ H14 e14 => ⟨⟨_, _, _, _, _, _, rfl⟩, k70.trans (KE.of k70.2 (e1013.trans e14))⟩
        have e1114 := (e12.trans e13).trans e14
        refine ⟨.ref rp, rfl, rp, ys, ms.take n, rfl, e1114 _ _ hrp, hys.mono M.ap (ExT.of e1114), fun m hm => hok m (List.mem_of_mem_take hm), by rw [List.length_take]; omega, fun hq ys2 H15 hnone e15 h15 hA hB => ?_⟩
        have e1015 := (e1013.trans e14).trans e15
        rcases run_tow (S := .emp) (i := 0) hn with ⟨S', hS', hrun⟩ | ⟨hle, j, w', hw, hrun⟩
        · have hlt : n < fs.length := by rw [hfl]; exact (List.getElem?_eq_some_iff.mp hS').1
          obtain ⟨S2, qh, rs, hS2, hqh, hrs, hRA⟩ := hou (List.getElem?_eq_getElem hlt)
          rw [hS'] at hS2
          cases hS2
          have hql : qh ≠ l := src_ne k6.2 hrs fun v hv => by
            obtain ⟨i, hi⟩ := List.mem_iff_getElem?.mp hv
            obtain ⟨pe, _, b, t, h1, _⟩ := paired_get hRA hi
            exact ⟨b, h1⟩
          refine (ev_if (b := true) (v := .ref qh) (et_is (et_I (g := fun i j => decide (i < j)) (ev_var rfl) (ev_lenL (ev_var rfl) (sq_of (e1015 _ _ hf10)))) (decide_eq_true (by omega))) (fun _ => ev_op (ev_var rfl) (ev_var rfl) (rv_ixl (sq_of (e1015 _ _ hf10)) (atI_nat (i := n) (by rw [List.getElem?_eq_getElem hlt, hqh])))) fun h => nomatch h) H15 (Ex.refl H15) _ fun H16 e16 => ⟨⟨hq, qh, ys2, rs, rfl, rfl, e16 _ _ h15, (e1015.trans e16) _ _ (k610.1 _ _ hql hrs), rows_prs ((hA _ hrun).mono (a := a) (ExT.of e16)) (hRA.mono (a := a) (t6.trans (ExT.of (e1015.trans e16))))⟩, fun H17 e17 => q14 H17 ((e15.trans e16).trans e17)⟩
        · have hge : ¬ n < fs.length := by rw [hfl]; omega
          rw [hw] at hz
          obtain ⟨qz, rfl, hqz⟩ := hz
          have hzl : qz ≠ l := fun zz => by
            obtain ⟨x, y, w2, g, _⟩ := k6.2
            rw [zz, g] at hqz
            cases hqz
          have hy2 := hB _ _ hrun
          subst hy2
          refine (ev_if (b := false) (v := .ref qz) (et_is (et_I (g := fun i j => decide (i < j)) (ev_var rfl) (ev_lenL (ev_var rfl) (sq_of (e1015 _ _ hf10)))) (decide_eq_false (by omega))) (fun h => nomatch h) fun _ => ev_var rfl) H15 (Ex.refl H15) _ fun H16 e16 => ⟨⟨hq, qz, _, _, rfl, rfl, e16 _ _ h15, (e1015.trans e16) _ _ (k610.1 _ _ hzl hqz), Prs.cons (Or.inl ⟨rfl, rfl⟩) (Prs.cons (Or.inl ⟨rfl, rfl⟩) Prs.nil)⟩, fun H17 e17 => q14 H17 ((e15.trans e16).trans e17)⟩
    · rintro σ' H3 ⟨⟨u3, u4, u5, u6, u7, u8, u9, u10, u11, u12, u13, rfl⟩, k3⟩
      exact ⟨⟨_, _, _, _, _, _, _, _, _, _, _, _, _, rfl⟩, back k3⟩
  · rintro σ' H1 ⟨⟨u1, u2, u3, u4, u5, u6, u7, u8, u9, u10, u11, u12, u13, rfl⟩, e1⟩
    exact s_ret ev_c fun H2 e2 => q H2 (e1.trans e2)
end
end Tl
end

section
set_option Elab.async false
set_option linter.all false
set_option maxRecDepth 100000
set_option maxHeartbeats 2000000
/-! The law, from the facts of the text alone. -/
namespace Tl
open PySem PySem.Spec PyProof.Rows L2 Evl
open Tar (By)
open C8 (Cal Met Mak)
structure AllF (P : Program) (w : World) (K : PySem.W.Frag) (mg : Str → Option Value) (a : Ad) : Prop where
  T : Txt K mg a
  M : Mcl K a
  HF : HouF K a
  N : NumF K a
  S : SizF K w a
  L : LetF K w a
  RC : RfC K a.cRef
  R : RfH K mg a.cRef
  ini : ∃ f2, MiniF K f2 ∧ (∃ f, SupD P K mg "File.__init__" s_File___init a.cFile f2 f ∧ Mk K a.cFile f) ∧ (∃ f, SupD P K mg "Sparse.__init__" s_Sparse___init a.cSparse f2 f ∧ Mk K a.cSparse f) ∧ (∃ f, SupD P K mg "Directory.__init__" s_Directory___init a.cDir f2 f ∧ Mk K a.cDir f) ∧ (∃ f, SupD P K mg "Symlink.__init__" s_Symlink___init a.cSym f2 f ∧ Mk K a.cSym f) ∧ (∃ f, SupD P K mg "Link.__init__" s_Link___init a.cLink f2 f ∧ Mk K a.cLink f)
  F_is_integer : DB K mg "is_integer" s_is_integer ["thing"]
  F_is_within : DB K mg "is_within" s_is_within ["thing", "low", "high"]
  F_blob : DB K mg "blob" s_blob ["numbers"]
  F_look_data : DB K mg "look_data" s_look_data ["data"]
  F_is_name : DB K mg "is_name" s_is_name ["thing"]
  F_is_path : DB K mg "is_path" s_is_path ["thing"]
  F_is_short : DB K mg "is_short" s_is_short ["name"]
  F_look_name : DB K mg "look_name" s_look_name ["name"]
  F_look_stamps : DB K mg "look_stamps" s_look_stamps ["mode", "time"]
  F_is_piece : DB K mg "is_piece" s_is_piece ["thing"]
  F_are_spans : DB K mg "are_spans" s_are_spans ["size", "spans"]
  F_are_pieces : DB K mg "are_pieces" s_are_pieces ["size", "pieces"]
  eq : ∃ f fd, C8.Fun K "__eq__" "Member.__eq__" s_Member___eq f fd ∧ PySem.W.isFn K (.ref f) = true ∧ Binds K fd ["self", "other"] [] ∧ ∀ m : Mem, PySem.W.findIn K (.ref (m.cls a)) "__eq__" = some (some (.ref f))
  m_File_content : ∃ f fd, C8.Fun K "content" "File.content" s_File_content f fd ∧ Meth K a.cFile "content" f ∧ Binds K fd ["self"] []
  m_Sparse_content : ∃ f fd, C8.Fun K "content" "Sparse.content" s_Sparse_content f fd ∧ Meth K a.cSparse "content" f ∧ Binds K fd ["self"] []
  hin : ∃ f fd, C8.Fun K "__init__" "House.__init__" s_House___init f fd ∧ Mk K a.cHouse f ∧ Binds K fd ["self"] []
  m_set_thing : ∃ f fd, C8.Fun K "set_thing" "House.set_thing" s_House_set_thing f fd ∧ Meth K a.cHouse "set_thing" f ∧ Binds K fd ["self", "path", "thing"] []
  m_has : ∃ f fd, C8.Fun K "has" "House.has" s_House_has f fd ∧ Meth K a.cHouse "has" f ∧ Binds K fd ["self", "path"] []
  m_kind_at : ∃ f fd, C8.Fun K "kind_at" "House.kind_at" s_House_kind_at f fd ∧ Meth K a.cHouse "kind_at" f ∧ Binds K fd ["self", "path"] []
  m_entries : ∃ f fd, C8.Fun K "entries" "House.entries" s_House_entries f fd ∧ Meth K a.cHouse "entries" f ∧ Binds K fd ["self"] []
  m_share : ∃ f fd, C8.Fun K "share" "House.share" s_House_share f fd ∧ Meth K a.cHouse "share" f ∧ Binds K fd ["self", "path", "target"] []
  m_settle : ∃ f fd, C8.Fun K "settle" "House.settle" s_House_settle f fd ∧ Meth K a.cHouse "settle" f ∧ Binds K fd ["self"] []
  m_copied : ∃ f fd, C8.Fun K "copied" "House.copied" s_House_copied f fd ∧ Meth K a.cHouse "copied" f ∧ Binds K fd ["self"] []
  F_above : DB K mg "above" s_above ["path"]
  F_refusal_at : DB K mg "refusal_at" s_refusal_at ["house", "path", "member", "target"]
  F_refusal : DB K mg "refusal" s_refusal ["house", "member"]
  F_put_at : DB K mg "put_at" s_put_at ["house", "path", "member", "target"]
  rf : ∃ f, SupRf P K mg a.cRef f ∧ PySem.W.findIn K (.ref a.cRef) "__init__" = some (some (.ref f)) ∧ PySem.W.typeIn K (.ref f) = some (.type "function")
  F_put_member : DB K mg "put_member" s_put_member ["house", "member"]
  F_unpack_one : DB K mg "unpack_one" s_unpack_one ["house", "index", "member"]
  F_unpacked : DB K mg "unpacked" s_unpacked ["house", "members"]
  F_law_walk : DB K mg "_law_walk" s_law_walk ["_law_some"]
  F_walked : DB K mg "walked" s_walked ["house", "members"]
  F_law_house : DB K mg "_law_house" s_law_house ["_law_some"]
  F_text_field : DB K mg "text_field" s_text_field ["text", "width"]
  F_magic_field : DB K mg "magic_field" s_magic_field []
  F_sum_of : DB K mg "sum_of" s_sum_of ["block"]
  F_octal_field : DB K mg "octal_field" s_octal_field ["number", "width"]
  F_checksum_field : DB K mg "checksum_field" s_checksum_field ["block"]
  F_header : DBI K mg "header" s_header ["kind", "name", "mode", "size", "time", "target"] kwH
  F_text_of : DB K mg "text_of" s_text_of ["field"]
  F_number_of : DB K mg "number_of" s_number_of ["field"]
  F_kind_of : DB K mg "kind_of" s_kind_of ["block"]
  F_name_of : DB K mg "name_of" s_name_of ["block"]
  F_target_of : DB K mg "target_of" s_target_of ["block"]
  F_numbers_of : DB K mg "numbers_of" s_numbers_of ["block"]
  F_is_name_right : DB K mg "is_name_right" s_is_name_right ["block", "long"]
  F_is_target_right : DB K mg "is_target_right" s_is_target_right ["block", "long"]
  F_is_kind_right : DB K mg "is_kind_right" s_is_kind_right ["block", "long"]
  F_wrong_number : DB K mg "wrong_number" s_wrong_number ["block"]
  F_wrong_field : DB K mg "wrong_field" s_wrong_field ["block", "long"]
  F_padded : DB K mg "padded" s_padded ["data"]
  F_map_block : DB K mg "map_block" s_map_block ["size", "spans"]
  F_stored : DB K mg "stored" s_stored ["member"]
  F_long_part : DB K mg "long_part" s_long_part ["kind", "text"]
  F_target_text : DB K mg "target_text" s_target_text ["member"]
  F_bytes_of : DB K mg "bytes_of" s_bytes_of ["member"]
  F_written : DB K mg "written" s_written ["members"]
  F_torn : DB K mg "torn" s_torn ["offset"]
  F_sparse : DBI K mg "sparse" s_sparse ["name", "found", "data", "mode", "time"] kwM
  F_at_header : DB K mg "at_header" s_at_header ["data", "start", "at", "long"]
  F_look_at : DB K mg "look_at" s_look_at ["data", "start"]
  F_scan : DBD K mg "scan" s_scan ["data", "offset"] [.int 0]
  F_whole_numbers : DB K mg "whole_numbers" s_whole_numbers ["block"]
  F_spans_of : DB K mg "spans_of" s_spans_of ["block", "many"]
  F_law_source : DB K mg "_law_source" s_law_source ["_law_script", "_law_at"]
  F_law_draw : DB K mg "_law_draw" s_law_draw ["_law_source_here", "_law_many"]
  F_law_random_numbers : DB K mg "_law_random_numbers" s_law_random_numbers ["_law_source_here", "_law_many"]
  F_law_stamps : DB K mg "_law_stamps" s_law_stamps ["_law_source_here"]
  F_law_made : DB K mg "_law_made" s_law_made ["_law_one"]
  F_law_plain_list : DB K mg "_law_plain_list" s_law_plain_list ["_law_source_here", "_law_most"]
  F_law_is_small_step : DB K mg "_law_is_small_step" s_law_is_small_step ["_law_before", "_law_after", "_law_name"]
  F_law : DB K mg "law" s_law ["_law_script"]
theorem all_law {P : Program} {w : World} {K : PySem.W.Frag} {mg : Str → Option Value} {base : Heap} {a : Ad} {fL : Addr} {fdL : FuncData} (A : AllF P w K mg a) (FL : L2.Fun K "law" "law" s_law fL fdL) : FnOk P w K mg base C8.CX0 12 fL fdL ["_law_script"] (spV 1 (rLaw K)) := by
  obtain ⟨f2, mi, ⟨f_File, d_File, m_File⟩, ⟨f_Sparse, d_Sparse, m_Sparse⟩, ⟨f_Directory, d_Directory, m_Directory⟩, ⟨f_Symlink, d_Symlink, m_Symlink⟩, ⟨f_Link, d_Link, m_Link⟩⟩ := A.ini
  have gl : ∀ {x : Str} {C : Addr}, Glb mg x (.ref C) → mg x = some (.ref C) := fun ⟨u, h, r⟩ => by cases r; exact h
  have k_is_integer := ok_is_integer (P := P) (w := w) (base := base) A.T A.F_is_integer
  have k_is_within := ok_is_within (P := P) (w := w) (base := base) A.T A.F_is_within k_is_integer
  have k_blob := ok_blob (P := P) (w := w) (base := base) A.T A.F_blob k_is_within
  have k_look_data := ok_look_data (P := P) (w := w) (base := base) A.T A.F_look_data
  have k_is_name := ok_is_name (P := P) (w := w) (base := base) A.T A.F_is_name
  have k_is_path := ok_is_path (P := P) (w := w) (base := base) A.T A.F_is_path k_is_name
  have k_is_short := ok_is_short (P := P) (w := w) (base := base) A.T A.F_is_short
  have k_look_name := ok_look_name (P := P) (w := w) (base := base) A.T A.F_look_name k_is_name
  have k_look_stamps := ok_look_stamps (P := P) (w := w) (base := base) A.T A.F_look_stamps k_is_within
  have k_is_piece := ok_is_piece (P := P) (w := w) (base := base) A.T A.F_is_piece k_is_integer
  have k_are_spans := ok_are_spans (P := P) (w := w) (base := base) A.T A.F_are_spans
  have k_are_pieces := ok_are_pieces (P := P) (w := w) (base := base) A.T A.F_are_pieces k_is_piece k_are_spans
  have k_File : MakI P w K mg base 4 "File" a.cFile kwM (spFile a) := ⟨f_File, m_File, gl A.T.c_File, ok_File_init A.T A.M d_File mi k_look_name k_look_stamps⟩
  have k_Directory : MakI P w K mg base 4 "Directory" a.cDir kwM (spDirectory a) := ⟨f_Directory, m_Directory, gl A.T.c_Directory, ok_Directory_init A.T A.M d_Directory mi k_look_name k_look_stamps⟩
  have k_Symlink : MakI P w K mg base 4 "Symlink" a.cSym kwM (spSymlink a) := ⟨f_Symlink, m_Symlink, gl A.T.c_Symlink, ok_Symlink_init A.T A.M d_Symlink mi k_look_name k_look_stamps⟩
  have k_Link : MakI P w K mg base 4 "Link" a.cLink kwM (spLink a) := ⟨f_Link, m_Link, gl A.T.c_Link, ok_Link_init A.T A.M d_Link mi k_look_name k_look_stamps⟩
  have k_Sparse : MakI P w K mg base 4 "Sparse" a.cSparse kwM (spSparse a) := ⟨f_Sparse, m_Sparse, gl A.T.c_Sparse, ok_Sparse_init A.T A.M d_Sparse mi k_look_name k_look_stamps k_is_within k_are_pieces⟩
  have EM : EqM P w K mg base a := let ⟨f, fd, h1, h2, h3, h4⟩ := A.eq; ⟨f, fd, ok_Member_eq A.T A.M h1, h2, h3, h4⟩
  obtain ⟨_, _, h1_File_content, h2_File_content, h3_File_content⟩ := A.m_File_content
  have k_File_content := ok_File_content (P := P) (w := w) (base := base) A.T A.M h1_File_content h2_File_content h3_File_content 
  obtain ⟨_, _, h1_Sparse_content, h2_Sparse_content, h3_Sparse_content⟩ := A.m_Sparse_content
  have k_Sparse_content := ok_Sparse_content (P := P) (w := w) (base := base) A.T A.M h1_Sparse_content h2_Sparse_content h3_Sparse_content 
  obtain ⟨_, _, hi1, hi2, hi3⟩ := A.hin
  have k_House := ok_House_init (P := P) (w := w) (base := base) A.HF hi1 hi2 (gl A.T.c_House) hi3
  obtain ⟨_, _, h1_set_thing, h2_set_thing, h3_set_thing⟩ := A.m_set_thing
  have k_set_thing := ok_set_thing (P := P) (w := w) (base := base) A.T A.HF h1_set_thing h2_set_thing h3_set_thing 
  obtain ⟨_, _, h1_has, h2_has, h3_has⟩ := A.m_has
  have k_has := ok_has (P := P) (w := w) (base := base) A.T A.HF h1_has h2_has h3_has 
  obtain ⟨_, _, h1_kind_at, h2_kind_at, h3_kind_at⟩ := A.m_kind_at
  have k_kind_at := ok_kind_at (P := P) (w := w) (base := base) A.T A.HF h1_kind_at h2_kind_at h3_kind_at k_has
  obtain ⟨_, _, h1_entries, h2_entries, h3_entries⟩ := A.m_entries
  have k_entries := ok_entries (P := P) (w := w) (base := base) A.T A.HF h1_entries h2_entries h3_entries 
  obtain ⟨_, _, h1_share, h2_share, h3_share⟩ := A.m_share
  have k_share := ok_share (P := P) (w := w) (base := base) A.T A.HF h1_share h2_share h3_share 
  obtain ⟨_, _, h1_settle, h2_settle, h3_settle⟩ := A.m_settle
  have k_settle := ok_settle (P := P) (w := w) (base := base) A.T A.HF h1_settle h2_settle h3_settle 
  obtain ⟨_, _, h1_copied, h2_copied, h3_copied⟩ := A.m_copied
  have k_copied := ok_copied (P := P) (w := w) (base := base) A.T A.HF h1_copied h2_copied h3_copied k_House k_settle
  have k_above := ok_above (P := P) (w := w) (base := base) A.T A.F_above
  have k_refusal_at := ok_refusal_at (P := P) (w := w) (base := base) A.T A.M A.F_refusal_at k_kind_at
  have k_refusal := ok_refusal (P := P) (w := w) (base := base) A.T A.M A.F_refusal k_is_path k_kind_at k_above k_refusal_at
  have k_put_at := ok_put_at (P := P) (w := w) (base := base) A.T A.M A.HF A.F_put_at k_kind_at k_above k_set_thing k_share k_File_content k_Sparse_content
  obtain ⟨f_R, rf1, rf2, rf3⟩ := A.rf
  have k_Refused : MakR P w K mg base 1 "Refused" a.cRef := ⟨f_R, A.RC, A.R.mgR, rf2, rf3, ok_Refused_init A.RC rf1⟩
  have k_put_member := ok_put_member (P := P) (w := w) (base := base) A.T A.M A.F_put_member k_put_at
  have k_unpack_one := ok_unpack_one (P := P) (w := w) (base := base) A.T A.M A.F_unpack_one k_refusal k_put_member k_Refused
  have k_unpacked := ok_unpacked (P := P) (w := w) (base := base) A.T A.M A.F_unpacked k_copied k_unpack_one
  have k_law_walk := ok_law_walk (P := P) (w := w) (base := base) A.T A.M A.R A.HF A.F_law_walk A.F_walked k_House k_copied k_unpack_one h1_entries h2_entries h3_entries
  have k_law_house := ok_law_house (P := P) (w := w) (base := base) A.T A.M A.R A.F_law_house k_House k_entries k_unpacked
  have k_text_field := ok_text_field (P := P) (w := w) (base := base) A.T A.F_text_field
  have k_magic_field := ok_magic_field (P := P) (w := w) (base := base) A.T A.F_magic_field
  have k_sum_of := ok_sum_of (P := P) (w := w) (base := base) A.T A.F_sum_of
  have k_octal_field := ok_octal_field (P := P) (w := w) (base := base) A.T A.F_octal_field
  have k_checksum_field := ok_checksum_field (P := P) (w := w) (base := base) A.T A.F_checksum_field k_octal_field k_sum_of
  have k_header := ok_header (P := P) (w := w) (base := base) A.T A.F_header k_text_field k_octal_field k_magic_field k_checksum_field
  have k_text_of := ok_text_of (P := P) (w := w) (base := base) A.T A.F_text_of
  have k_number_of := ok_number_of (P := P) (w := w) (base := base) A.T A.F_number_of k_text_of
  have k_kind_of := ok_kind_of (P := P) (w := w) (base := base) A.T A.F_kind_of k_text_of
  have k_name_of := ok_name_of (P := P) (w := w) (base := base) A.T A.F_name_of k_text_of
  have k_target_of := ok_target_of (P := P) (w := w) (base := base) A.T A.F_target_of k_text_of
  have k_numbers_of := ok_numbers_of (P := P) (w := w) (base := base) A.T A.N A.F_numbers_of k_number_of
  have k_is_name_right := ok_is_name_right (P := P) (w := w) (base := base) A.T A.F_is_name_right k_name_of k_is_name
  have k_is_target_right := ok_is_target_right (P := P) (w := w) (base := base) A.T A.F_is_target_right k_target_of k_kind_of k_is_name
  have k_is_kind_right := ok_is_kind_right (P := P) (w := w) (base := base) A.T A.F_is_kind_right k_name_of k_kind_of
  have k_wrong_number := ok_wrong_number (P := P) (w := w) (base := base) A.T A.F_wrong_number k_name_of k_numbers_of
  have k_wrong_field := ok_wrong_field (P := P) (w := w) (base := base) A.T A.S A.F_wrong_field k_is_name_right k_wrong_number k_is_kind_right k_is_target_right k_magic_field k_checksum_field k_kind_of k_numbers_of
  have k_padded := ok_padded (P := P) (w := w) (base := base) A.T A.F_padded
  have k_map_block := ok_map_block (P := P) (w := w) (base := base) A.T A.F_map_block k_padded
  have k_stored := ok_stored (P := P) (w := w) (base := base) A.T A.M A.F_stored k_map_block
  have k_long_part := ok_long_part (P := P) (w := w) (base := base) A.T A.F_long_part k_is_short
  have k_target_text := ok_target_text (P := P) (w := w) (base := base) A.T A.M A.F_target_text
  have k_bytes_of := ok_bytes_of (P := P) (w := w) (base := base) A.T A.M A.L A.F_bytes_of k_stored k_target_text k_header k_long_part k_padded
  have k_written := ok_written (P := P) (w := w) (base := base) A.T A.M A.F_written k_bytes_of
  have k_torn := ok_torn (P := P) (w := w) (base := base) A.T A.F_torn
  have k_sparse := ok_sparse (P := P) (w := w) (base := base) A.T A.M A.F_sparse k_Sparse
  have k_whole_numbers := ok_whole_numbers (P := P) (w := w) (base := base) A.T A.F_whole_numbers k_text_of
  have k_spans_of := ok_spans_of (P := P) (w := w) (base := base) A.T A.F_spans_of k_whole_numbers k_are_spans k_map_block
  have k_at_header := ok_at_header (P := P) (w := w) (base := base) A.T A.M A.F_at_header k_numbers_of k_kind_of k_name_of k_target_of k_torn k_spans_of k_sparse k_File k_Directory k_Symlink k_Link
  have k_look_at := ok_look_at (P := P) (w := w) (base := base) A.T A.F_look_at k_torn k_kind_of k_wrong_field k_at_header
  have k_scan := ok_scan (P := P) (w := w) (base := base) A.T A.M A.F_scan k_look_data k_is_within k_look_at
  have k_law_source := ok_law_source (P := P) (w := w) (base := base) A.T A.F_law_source
  have k_law_draw := ok_law_draw (P := P) (w := w) (base := base) A.T A.F_law_draw
  have k_law_random_numbers := ok_law_random_numbers (P := P) (w := w) (base := base) A.T A.F_law_random_numbers k_law_draw
  have k_law_stamps := ok_law_stamps (P := P) (w := w) (base := base) A.T A.F_law_stamps k_law_draw
  have k_law_made := ok_law_made (P := P) (w := w) (base := base) A.T A.M A.F_law_made k_blob k_Sparse k_File k_Directory k_Symlink k_Link
  have k_law_plain_list := ok_law_plain_list (P := P) (w := w) (base := base) A.T A.F_law_plain_list k_law_draw k_law_stamps k_law_random_numbers
  have k_law_is_small_step := ok_law_is_small_step (P := P) (w := w) (base := base) A.T A.F_law_is_small_step
  have k_law := ok_law (P := P) (w := w) (base := base) A.T A.M EM FL k_law_source k_law_draw k_law_plain_list k_law_made k_written k_law_walk k_law_house k_law_is_small_step k_scan
  exact k_law
end Tl
end

section
set_option Elab.async false
set_option linter.all false
set_option maxRecDepth 100000
set_option maxHeartbeats 2000000
/-! The facts of the text, from what the head's Hook looks at. -/
namespace Tl
open PySem PySem.Spec PyProof.Rows L2
open He (ga ma fAd eqO relB conB tupB valsB)
def adK (K : PySem.W.Frag) : Ad := ⟨ga K "Member", ga K "File", ga K "Sparse", ga K "Directory", ga K "Symlink", ga K "Link", ga K "House", ga K "Refused", ga K "MADE", ga K "NUMBERS", ga K "SIZES", ga K "LETTERS_OF", itA K (ga K "NUMBERS") 0, itA K (ga K "NUMBERS") 1, itA K (ga K "NUMBERS") 2, itA K (ga K "NUMBERS") 3, itA K (ga K "NUMBERS") 4⟩
theorem c8_args (s : Stmt) : C8.fnArgs s = defArgs s := by cases s <;> rfl
theorem c8_body (s : Stmt) : C8.fnBody s = defBody s := by cases s <;> rfl
theorem c8_scope (s : Stmt) : C8.fnScope s = defScope s := by cases s <;> rfl
theorem fun_of {K : PySem.W.Frag} {x q : Str} {st : Stmt} {kws : List (Str × V)} {f : Addr} {fd : FuncData} (h : FunD K x q (defArgs st) (defBody st) (defScope st) [] kws f fd) : L2.Fun K x q st f fd := by
  obtain ⟨oc, od, dV, kV, doc, pm, an, cdv, ct, osl, h1, h2, h3, h4, h5⟩ := h.ex
  rcases h4 with ⟨_, rfl⟩ | ⟨h4, _⟩
  · exact ⟨⟨oc, od, kV, doc, pm, an, cdv, ct, osl, h1, h2, h3⟩, h.kp⟩
  · exact absurd rfl h4
theorem fun8_of {K : PySem.W.Frag} {x q : Str} {st : Stmt} {kws : List (Str × V)} {dvs : List V} {f : Addr} {fd : FuncData} (h : FunD K x q (defArgs st) (defBody st) (defScope st) dvs kws f fd) : C8.Fun K x q st f fd := by
  obtain ⟨oc, od, dV, kV, doc, pm, an, cdv, ct, osl, h1, h2, h3, h4, h5⟩ := h.ex
  rw [← c8_args, ← c8_body, ← c8_scope] at h1
  exact ⟨oc, od, dV, kV, doc, pm, an, cdv, ct, osl, h1, h2, h3⟩
theorem tp_ok {K : PySem.W.Frag} {t : Addr} {vs : List V} (h : tpB K t vs = true) (H : Hp) : SqT K H t vs := by
  unfold tpB at h
  cases q : K.lookup t with
  | none =>
    rw [q] at h
    cases h
  | some o =>
    obtain ⟨oc, od, dt, osl⟩ := o
    rw [q] at h
    cases oc with
    | type c =>
      cases dt with
      | seq its n =>
        obtain ⟨h1, h2⟩ := He.ba (show (decide (c = "tuple") && (decide (its.size ≤ sizeLine) && He.relAll vs its.toList)) = true from h)
        obtain ⟨h3, h4⟩ := He.ba h2
        exact .inr ⟨_, its, n, q, congrArg Value.type (of_decide_eq_true h1), rfl, of_decide_eq_true h3, He.relAll_ok h4⟩
      | _ => cases h
    | _ => cases dt <;> cases h
theorem rep_all {l : List Bool} {n : Nat} (h : l = List.replicate n true) {i : Nat} {b : Bool} (hi : l[i]? = some b) : b = true := by
  have := List.mem_of_getElem? hi
  rw [h] at this
  exact List.eq_of_mem_replicate this
section
variable {w : World} {K : PySem.W.Frag} {h : Heap} {mg : Str → Option Value}
/-- what the Hook saw -/
structure Saw (w : World) (K : PySem.W.Frag) : Prop where
  A : exB hP K = List.replicate hB true
  B : (hfn.map fun d => He.fnW K d.at_) = hfn.map He.DefD.val
  C : ((hfa.map fun f => f.ok K) ++ hfn.map fun d => d.ok K) = List.replicate (hfa.length + hfn.length) true
  D : ((hts.map fun t => He.dicW K (t.1 K)), [suW K "File", suW K "Sparse", suW K "Directory", suW K "Symlink", suW K "Link", suW K "Refused"]) = ((hts.map fun t => some (He.keysIn w.params t.2)), [suV "File.__init__" s_File___init, suV "Sparse.__init__" s_Sparse___init, suV "Directory.__init__" s_Directory___init, suV "Symlink.__init__" s_Symlink___init, suV "Link.__init__" s_Link___init, suV "Refused.__init__" s_Refused___init])
theorem Saw.fc (s : Saw w K) (i : Nat) {f : He.Fa} (hi : hfa[i]? = some f) : f.ok K = true := rep_all s.C (i := i) (by
  have hl := (List.getElem?_eq_some_iff.mp hi).1
  rw [List.getElem?_append_left (by rw [List.length_map]; exact hl), List.getElem?_map, hi]
  rfl)
theorem Saw.df (s : Saw w K) (i : Nat) {d : He.DefD} (hi : hfn[i]? = some d) : ∃ fd, FunD K d.name d.qual d.params d.body d.scope (d.dvs K) (d.kws K) (fAd K d.at_) fd := by
  have e2 : (hfn.map fun d => He.fnW K d.at_)[i]? = (hfn.map He.DefD.val)[i]? := by rw [s.B]
  rw [List.getElem?_map, List.getElem?_map, hi] at e2
  refine He.DefD.funD (Option.some.inj e2) (rep_all s.C (i := hfa.length + i) ?_)
  rw [List.getElem?_append_right (by rw [List.length_map]; omega), List.length_map, Nat.add_sub_cancel_left, List.getElem?_map, hi]
  rfl
theorem Saw.ex (s : Saw w K) (i : Nat) {b : Bool} (hi : (exB hP K)[i]? = some b) : b = true := rep_all s.A hi
theorem cl_of {x : Str} {fs : List Str} (c : (He.Fa.cls x).ok K = true) (n : ∀ f ∈ fs, (He.Fa.noat x f).ok K = true) : ClF K (ga K x) fs := ⟨He.cls_ok c, fun f hf => He.eqO_ok (n f hf)⟩
theorem fx_is_integer (s : Saw w K) (X : K.In h) (G : h.Ns mainGlobals mg) : DB K mg "is_integer" s_is_integer ["thing"] := by
  obtain ⟨fd, F⟩ := s.df 0 rfl
  exact ⟨_, fd, fun_of F, He.glo_ok X G (s.fc 0 rfl), FunD.bindsN F fun _ _ _ _ _ _ us hl => match us, hl with | [_], _ => rfl⟩
theorem fx_is_within (s : Saw w K) (X : K.In h) (G : h.Ns mainGlobals mg) : DB K mg "is_within" s_is_within ["thing", "low", "high"] := by
  obtain ⟨fd, F⟩ := s.df 1 rfl
  exact ⟨_, fd, fun_of F, He.glo_ok X G (s.fc 1 rfl), FunD.bindsN F fun _ _ _ _ _ _ us hl => match us, hl with | [_, _, _], _ => rfl⟩
theorem fx_blob (s : Saw w K) (X : K.In h) (G : h.Ns mainGlobals mg) : DB K mg "blob" s_blob ["numbers"] := by
  obtain ⟨fd, F⟩ := s.df 2 rfl
  exact ⟨_, fd, fun_of F, He.glo_ok X G (s.fc 2 rfl), FunD.bindsN F fun _ _ _ _ _ _ us hl => match us, hl with | [_], _ => rfl⟩
theorem fx_look_data (s : Saw w K) (X : K.In h) (G : h.Ns mainGlobals mg) : DB K mg "look_data" s_look_data ["data"] := by
  obtain ⟨fd, F⟩ := s.df 3 rfl
  exact ⟨_, fd, fun_of F, He.glo_ok X G (s.fc 3 rfl), FunD.bindsN F fun _ _ _ _ _ _ us hl => match us, hl with | [_], _ => rfl⟩
theorem fx_is_name (s : Saw w K) (X : K.In h) (G : h.Ns mainGlobals mg) : DB K mg "is_name" s_is_name ["thing"] := by
  obtain ⟨fd, F⟩ := s.df 4 rfl
  exact ⟨_, fd, fun_of F, He.glo_ok X G (s.fc 4 rfl), FunD.bindsN F fun _ _ _ _ _ _ us hl => match us, hl with | [_], _ => rfl⟩
theorem fx_is_path (s : Saw w K) (X : K.In h) (G : h.Ns mainGlobals mg) : DB K mg "is_path" s_is_path ["thing"] := by
  obtain ⟨fd, F⟩ := s.df 5 rfl
  exact ⟨_, fd, fun_of F, He.glo_ok X G (s.fc 5 rfl), FunD.bindsN F fun _ _ _ _ _ _ us hl => match us, hl with | [_], _ => rfl⟩
theorem fx_is_short (s : Saw w K) (X : K.In h) (G : h.Ns mainGlobals mg) : DB K mg "is_short" s_is_short ["name"] := by
  obtain ⟨fd, F⟩ := s.df 6 rfl
  exact ⟨_, fd, fun_of F, He.glo_ok X G (s.fc 6 rfl), FunD.bindsN F fun _ _ _ _ _ _ us hl => match us, hl with | [_], _ => rfl⟩
theorem fx_look_name (s : Saw w K) (X : K.In h) (G : h.Ns mainGlobals mg) : DB K mg "look_name" s_look_name ["name"] := by
  obtain ⟨fd, F⟩ := s.df 7 rfl
  exact ⟨_, fd, fun_of F, He.glo_ok X G (s.fc 7 rfl), FunD.bindsN F fun _ _ _ _ _ _ us hl => match us, hl with | [_], _ => rfl⟩
theorem fx_look_stamps (s : Saw w K) (X : K.In h) (G : h.Ns mainGlobals mg) : DB K mg "look_stamps" s_look_stamps ["mode", "time"] := by
  obtain ⟨fd, F⟩ := s.df 8 rfl
  exact ⟨_, fd, fun_of F, He.glo_ok X G (s.fc 8 rfl), FunD.bindsN F fun _ _ _ _ _ _ us hl => match us, hl with | [_, _], _ => rfl⟩
theorem fx_is_piece (s : Saw w K) (X : K.In h) (G : h.Ns mainGlobals mg) : DB K mg "is_piece" s_is_piece ["thing"] := by
  obtain ⟨fd, F⟩ := s.df 9 rfl
  exact ⟨_, fd, fun_of F, He.glo_ok X G (s.fc 9 rfl), FunD.bindsN F fun _ _ _ _ _ _ us hl => match us, hl with | [_], _ => rfl⟩
theorem fx_are_spans (s : Saw w K) (X : K.In h) (G : h.Ns mainGlobals mg) : DB K mg "are_spans" s_are_spans ["size", "spans"] := by
  obtain ⟨fd, F⟩ := s.df 10 rfl
  exact ⟨_, fd, fun_of F, He.glo_ok X G (s.fc 10 rfl), FunD.bindsN F fun _ _ _ _ _ _ us hl => match us, hl with | [_, _], _ => rfl⟩
theorem fx_are_pieces (s : Saw w K) (X : K.In h) (G : h.Ns mainGlobals mg) : DB K mg "are_pieces" s_are_pieces ["size", "pieces"] := by
  obtain ⟨fd, F⟩ := s.df 11 rfl
  exact ⟨_, fd, fun_of F, He.glo_ok X G (s.fc 11 rfl), FunD.bindsN F fun _ _ _ _ _ _ us hl => match us, hl with | [_, _], _ => rfl⟩
theorem fx_above (s : Saw w K) (X : K.In h) (G : h.Ns mainGlobals mg) : DB K mg "above" s_above ["path"] := by
  obtain ⟨fd, F⟩ := s.df 12 rfl
  exact ⟨_, fd, fun_of F, He.glo_ok X G (s.fc 12 rfl), FunD.bindsN F fun _ _ _ _ _ _ us hl => match us, hl with | [_], _ => rfl⟩
theorem fx_refusal_at (s : Saw w K) (X : K.In h) (G : h.Ns mainGlobals mg) : DB K mg "refusal_at" s_refusal_at ["house", "path", "member", "target"] := by
  obtain ⟨fd, F⟩ := s.df 13 rfl
  exact ⟨_, fd, fun_of F, He.glo_ok X G (s.fc 13 rfl), FunD.bindsN F fun _ _ _ _ _ _ us hl => match us, hl with | [_, _, _, _], _ => rfl⟩
theorem fx_refusal (s : Saw w K) (X : K.In h) (G : h.Ns mainGlobals mg) : DB K mg "refusal" s_refusal ["house", "member"] := by
  obtain ⟨fd, F⟩ := s.df 14 rfl
  exact ⟨_, fd, fun_of F, He.glo_ok X G (s.fc 14 rfl), FunD.bindsN F fun _ _ _ _ _ _ us hl => match us, hl with | [_, _], _ => rfl⟩
theorem fx_put_at (s : Saw w K) (X : K.In h) (G : h.Ns mainGlobals mg) : DB K mg "put_at" s_put_at ["house", "path", "member", "target"] := by
  obtain ⟨fd, F⟩ := s.df 15 rfl
  exact ⟨_, fd, fun_of F, He.glo_ok X G (s.fc 15 rfl), FunD.bindsN F fun _ _ _ _ _ _ us hl => match us, hl with | [_, _, _, _], _ => rfl⟩
theorem fx_put_member (s : Saw w K) (X : K.In h) (G : h.Ns mainGlobals mg) : DB K mg "put_member" s_put_member ["house", "member"] := by
  obtain ⟨fd, F⟩ := s.df 16 rfl
  exact ⟨_, fd, fun_of F, He.glo_ok X G (s.fc 16 rfl), FunD.bindsN F fun _ _ _ _ _ _ us hl => match us, hl with | [_, _], _ => rfl⟩
theorem fx_unpack_one (s : Saw w K) (X : K.In h) (G : h.Ns mainGlobals mg) : DB K mg "unpack_one" s_unpack_one ["house", "index", "member"] := by
  obtain ⟨fd, F⟩ := s.df 17 rfl
  exact ⟨_, fd, fun_of F, He.glo_ok X G (s.fc 17 rfl), FunD.bindsN F fun _ _ _ _ _ _ us hl => match us, hl with | [_, _, _], _ => rfl⟩
theorem fx_unpacked (s : Saw w K) (X : K.In h) (G : h.Ns mainGlobals mg) : DB K mg "unpacked" s_unpacked ["house", "members"] := by
  obtain ⟨fd, F⟩ := s.df 18 rfl
  exact ⟨_, fd, fun_of F, He.glo_ok X G (s.fc 18 rfl), FunD.bindsN F fun _ _ _ _ _ _ us hl => match us, hl with | [_, _], _ => rfl⟩
theorem fx_law_walk (s : Saw w K) (X : K.In h) (G : h.Ns mainGlobals mg) : DB K mg "_law_walk" s_law_walk ["_law_some"] := by
  obtain ⟨fd, F⟩ := s.df 19 rfl
  exact ⟨_, fd, fun_of F, He.glo_ok X G (s.fc 19 rfl), FunD.bindsN F fun _ _ _ _ _ _ us hl => match us, hl with | [_], _ => rfl⟩
theorem fx_walked (s : Saw w K) (X : K.In h) (G : h.Ns mainGlobals mg) : DB K mg "walked" s_walked ["house", "members"] := by
  obtain ⟨fd, F⟩ := s.df 20 rfl
  exact ⟨_, fd, fun_of F, He.glo_ok X G (s.fc 20 rfl), FunD.bindsN F fun _ _ _ _ _ _ us hl => match us, hl with | [_, _], _ => rfl⟩
theorem fx_law_house (s : Saw w K) (X : K.In h) (G : h.Ns mainGlobals mg) : DB K mg "_law_house" s_law_house ["_law_some"] := by
  obtain ⟨fd, F⟩ := s.df 21 rfl
  exact ⟨_, fd, fun_of F, He.glo_ok X G (s.fc 21 rfl), FunD.bindsN F fun _ _ _ _ _ _ us hl => match us, hl with | [_], _ => rfl⟩
theorem fx_text_field (s : Saw w K) (X : K.In h) (G : h.Ns mainGlobals mg) : DB K mg "text_field" s_text_field ["text", "width"] := by
  obtain ⟨fd, F⟩ := s.df 22 rfl
  exact ⟨_, fd, fun_of F, He.glo_ok X G (s.fc 22 rfl), FunD.bindsN F fun _ _ _ _ _ _ us hl => match us, hl with | [_, _], _ => rfl⟩
theorem fx_magic_field (s : Saw w K) (X : K.In h) (G : h.Ns mainGlobals mg) : DB K mg "magic_field" s_magic_field [] := by
  obtain ⟨fd, F⟩ := s.df 23 rfl
  exact ⟨_, fd, fun_of F, He.glo_ok X G (s.fc 23 rfl), FunD.bindsN F fun _ _ _ _ _ _ us hl => match us, hl with | [], _ => rfl⟩
theorem fx_sum_of (s : Saw w K) (X : K.In h) (G : h.Ns mainGlobals mg) : DB K mg "sum_of" s_sum_of ["block"] := by
  obtain ⟨fd, F⟩ := s.df 24 rfl
  exact ⟨_, fd, fun_of F, He.glo_ok X G (s.fc 24 rfl), FunD.bindsN F fun _ _ _ _ _ _ us hl => match us, hl with | [_], _ => rfl⟩
theorem fx_octal_field (s : Saw w K) (X : K.In h) (G : h.Ns mainGlobals mg) : DB K mg "octal_field" s_octal_field ["number", "width"] := by
  obtain ⟨fd, F⟩ := s.df 25 rfl
  exact ⟨_, fd, fun_of F, He.glo_ok X G (s.fc 25 rfl), FunD.bindsN F fun _ _ _ _ _ _ us hl => match us, hl with | [_, _], _ => rfl⟩
theorem fx_checksum_field (s : Saw w K) (X : K.In h) (G : h.Ns mainGlobals mg) : DB K mg "checksum_field" s_checksum_field ["block"] := by
  obtain ⟨fd, F⟩ := s.df 26 rfl
  exact ⟨_, fd, fun_of F, He.glo_ok X G (s.fc 26 rfl), FunD.bindsN F fun _ _ _ _ _ _ us hl => match us, hl with | [_], _ => rfl⟩
theorem fx_text_of (s : Saw w K) (X : K.In h) (G : h.Ns mainGlobals mg) : DB K mg "text_of" s_text_of ["field"] := by
  obtain ⟨fd, F⟩ := s.df 28 rfl
  exact ⟨_, fd, fun_of F, He.glo_ok X G (s.fc 28 rfl), FunD.bindsN F fun _ _ _ _ _ _ us hl => match us, hl with | [_], _ => rfl⟩
theorem fx_number_of (s : Saw w K) (X : K.In h) (G : h.Ns mainGlobals mg) : DB K mg "number_of" s_number_of ["field"] := by
  obtain ⟨fd, F⟩ := s.df 29 rfl
  exact ⟨_, fd, fun_of F, He.glo_ok X G (s.fc 29 rfl), FunD.bindsN F fun _ _ _ _ _ _ us hl => match us, hl with | [_], _ => rfl⟩
theorem fx_kind_of (s : Saw w K) (X : K.In h) (G : h.Ns mainGlobals mg) : DB K mg "kind_of" s_kind_of ["block"] := by
  obtain ⟨fd, F⟩ := s.df 30 rfl
  exact ⟨_, fd, fun_of F, He.glo_ok X G (s.fc 30 rfl), FunD.bindsN F fun _ _ _ _ _ _ us hl => match us, hl with | [_], _ => rfl⟩
theorem fx_name_of (s : Saw w K) (X : K.In h) (G : h.Ns mainGlobals mg) : DB K mg "name_of" s_name_of ["block"] := by
  obtain ⟨fd, F⟩ := s.df 31 rfl
  exact ⟨_, fd, fun_of F, He.glo_ok X G (s.fc 31 rfl), FunD.bindsN F fun _ _ _ _ _ _ us hl => match us, hl with | [_], _ => rfl⟩
theorem fx_target_of (s : Saw w K) (X : K.In h) (G : h.Ns mainGlobals mg) : DB K mg "target_of" s_target_of ["block"] := by
  obtain ⟨fd, F⟩ := s.df 32 rfl
  exact ⟨_, fd, fun_of F, He.glo_ok X G (s.fc 32 rfl), FunD.bindsN F fun _ _ _ _ _ _ us hl => match us, hl with | [_], _ => rfl⟩
theorem fx_numbers_of (s : Saw w K) (X : K.In h) (G : h.Ns mainGlobals mg) : DB K mg "numbers_of" s_numbers_of ["block"] := by
  obtain ⟨fd, F⟩ := s.df 33 rfl
  exact ⟨_, fd, fun_of F, He.glo_ok X G (s.fc 33 rfl), FunD.bindsN F fun _ _ _ _ _ _ us hl => match us, hl with | [_], _ => rfl⟩
theorem fx_is_name_right (s : Saw w K) (X : K.In h) (G : h.Ns mainGlobals mg) : DB K mg "is_name_right" s_is_name_right ["block", "long"] := by
  obtain ⟨fd, F⟩ := s.df 34 rfl
  exact ⟨_, fd, fun_of F, He.glo_ok X G (s.fc 34 rfl), FunD.bindsN F fun _ _ _ _ _ _ us hl => match us, hl with | [_, _], _ => rfl⟩
theorem fx_is_target_right (s : Saw w K) (X : K.In h) (G : h.Ns mainGlobals mg) : DB K mg "is_target_right" s_is_target_right ["block", "long"] := by
  obtain ⟨fd, F⟩ := s.df 35 rfl
  exact ⟨_, fd, fun_of F, He.glo_ok X G (s.fc 35 rfl), FunD.bindsN F fun _ _ _ _ _ _ us hl => match us, hl with | [_, _], _ => rfl⟩
theorem fx_is_kind_right (s : Saw w K) (X : K.In h) (G : h.Ns mainGlobals mg) : DB K mg "is_kind_right" s_is_kind_right ["block", "long"] := by
  obtain ⟨fd, F⟩ := s.df 36 rfl
  exact ⟨_, fd, fun_of F, He.glo_ok X G (s.fc 36 rfl), FunD.bindsN F fun _ _ _ _ _ _ us hl => match us, hl with | [_, _], _ => rfl⟩
theorem fx_wrong_number (s : Saw w K) (X : K.In h) (G : h.Ns mainGlobals mg) : DB K mg "wrong_number" s_wrong_number ["block"] := by
  obtain ⟨fd, F⟩ := s.df 37 rfl
  exact ⟨_, fd, fun_of F, He.glo_ok X G (s.fc 37 rfl), FunD.bindsN F fun _ _ _ _ _ _ us hl => match us, hl with | [_], _ => rfl⟩
theorem fx_wrong_field (s : Saw w K) (X : K.In h) (G : h.Ns mainGlobals mg) : DB K mg "wrong_field" s_wrong_field ["block", "long"] := by
  obtain ⟨fd, F⟩ := s.df 38 rfl
  exact ⟨_, fd, fun_of F, He.glo_ok X G (s.fc 38 rfl), FunD.bindsN F fun _ _ _ _ _ _ us hl => match us, hl with | [_, _], _ => rfl⟩
theorem fx_padded (s : Saw w K) (X : K.In h) (G : h.Ns mainGlobals mg) : DB K mg "padded" s_padded ["data"] := by
  obtain ⟨fd, F⟩ := s.df 39 rfl
  exact ⟨_, fd, fun_of F, He.glo_ok X G (s.fc 39 rfl), FunD.bindsN F fun _ _ _ _ _ _ us hl => match us, hl with | [_], _ => rfl⟩
theorem fx_map_block (s : Saw w K) (X : K.In h) (G : h.Ns mainGlobals mg) : DB K mg "map_block" s_map_block ["size", "spans"] := by
  obtain ⟨fd, F⟩ := s.df 40 rfl
  exact ⟨_, fd, fun_of F, He.glo_ok X G (s.fc 40 rfl), FunD.bindsN F fun _ _ _ _ _ _ us hl => match us, hl with | [_, _], _ => rfl⟩
theorem fx_stored (s : Saw w K) (X : K.In h) (G : h.Ns mainGlobals mg) : DB K mg "stored" s_stored ["member"] := by
  obtain ⟨fd, F⟩ := s.df 41 rfl
  exact ⟨_, fd, fun_of F, He.glo_ok X G (s.fc 41 rfl), FunD.bindsN F fun _ _ _ _ _ _ us hl => match us, hl with | [_], _ => rfl⟩
theorem fx_long_part (s : Saw w K) (X : K.In h) (G : h.Ns mainGlobals mg) : DB K mg "long_part" s_long_part ["kind", "text"] := by
  obtain ⟨fd, F⟩ := s.df 42 rfl
  exact ⟨_, fd, fun_of F, He.glo_ok X G (s.fc 42 rfl), FunD.bindsN F fun _ _ _ _ _ _ us hl => match us, hl with | [_, _], _ => rfl⟩
theorem fx_target_text (s : Saw w K) (X : K.In h) (G : h.Ns mainGlobals mg) : DB K mg "target_text" s_target_text ["member"] := by
  obtain ⟨fd, F⟩ := s.df 43 rfl
  exact ⟨_, fd, fun_of F, He.glo_ok X G (s.fc 43 rfl), FunD.bindsN F fun _ _ _ _ _ _ us hl => match us, hl with | [_], _ => rfl⟩
theorem fx_bytes_of (s : Saw w K) (X : K.In h) (G : h.Ns mainGlobals mg) : DB K mg "bytes_of" s_bytes_of ["member"] := by
  obtain ⟨fd, F⟩ := s.df 44 rfl
  exact ⟨_, fd, fun_of F, He.glo_ok X G (s.fc 44 rfl), FunD.bindsN F fun _ _ _ _ _ _ us hl => match us, hl with | [_], _ => rfl⟩
theorem fx_written (s : Saw w K) (X : K.In h) (G : h.Ns mainGlobals mg) : DB K mg "written" s_written ["members"] := by
  obtain ⟨fd, F⟩ := s.df 45 rfl
  exact ⟨_, fd, fun_of F, He.glo_ok X G (s.fc 45 rfl), FunD.bindsN F fun _ _ _ _ _ _ us hl => match us, hl with | [_], _ => rfl⟩
theorem fx_torn (s : Saw w K) (X : K.In h) (G : h.Ns mainGlobals mg) : DB K mg "torn" s_torn ["offset"] := by
  obtain ⟨fd, F⟩ := s.df 46 rfl
  exact ⟨_, fd, fun_of F, He.glo_ok X G (s.fc 46 rfl), FunD.bindsN F fun _ _ _ _ _ _ us hl => match us, hl with | [_], _ => rfl⟩
theorem fx_at_header (s : Saw w K) (X : K.In h) (G : h.Ns mainGlobals mg) : DB K mg "at_header" s_at_header ["data", "start", "at", "long"] := by
  obtain ⟨fd, F⟩ := s.df 48 rfl
  exact ⟨_, fd, fun_of F, He.glo_ok X G (s.fc 48 rfl), FunD.bindsN F fun _ _ _ _ _ _ us hl => match us, hl with | [_, _, _, _], _ => rfl⟩
theorem fx_look_at (s : Saw w K) (X : K.In h) (G : h.Ns mainGlobals mg) : DB K mg "look_at" s_look_at ["data", "start"] := by
  obtain ⟨fd, F⟩ := s.df 49 rfl
  exact ⟨_, fd, fun_of F, He.glo_ok X G (s.fc 49 rfl), FunD.bindsN F fun _ _ _ _ _ _ us hl => match us, hl with | [_, _], _ => rfl⟩
theorem fx_whole_numbers (s : Saw w K) (X : K.In h) (G : h.Ns mainGlobals mg) : DB K mg "whole_numbers" s_whole_numbers ["block"] := by
  obtain ⟨fd, F⟩ := s.df 51 rfl
  exact ⟨_, fd, fun_of F, He.glo_ok X G (s.fc 51 rfl), FunD.bindsN F fun _ _ _ _ _ _ us hl => match us, hl with | [_], _ => rfl⟩
theorem fx_spans_of (s : Saw w K) (X : K.In h) (G : h.Ns mainGlobals mg) : DB K mg "spans_of" s_spans_of ["block", "many"] := by
  obtain ⟨fd, F⟩ := s.df 52 rfl
  exact ⟨_, fd, fun_of F, He.glo_ok X G (s.fc 52 rfl), FunD.bindsN F fun _ _ _ _ _ _ us hl => match us, hl with | [_, _], _ => rfl⟩
theorem fx_law_source (s : Saw w K) (X : K.In h) (G : h.Ns mainGlobals mg) : DB K mg "_law_source" s_law_source ["_law_script", "_law_at"] := by
  obtain ⟨fd, F⟩ := s.df 53 rfl
  exact ⟨_, fd, fun_of F, He.glo_ok X G (s.fc 53 rfl), FunD.bindsN F fun _ _ _ _ _ _ us hl => match us, hl with | [_, _], _ => rfl⟩
theorem fx_law_draw (s : Saw w K) (X : K.In h) (G : h.Ns mainGlobals mg) : DB K mg "_law_draw" s_law_draw ["_law_source_here", "_law_many"] := by
  obtain ⟨fd, F⟩ := s.df 54 rfl
  exact ⟨_, fd, fun_of F, He.glo_ok X G (s.fc 54 rfl), FunD.bindsN F fun _ _ _ _ _ _ us hl => match us, hl with | [_, _], _ => rfl⟩
theorem fx_law_random_numbers (s : Saw w K) (X : K.In h) (G : h.Ns mainGlobals mg) : DB K mg "_law_random_numbers" s_law_random_numbers ["_law_source_here", "_law_many"] := by
  obtain ⟨fd, F⟩ := s.df 55 rfl
  exact ⟨_, fd, fun_of F, He.glo_ok X G (s.fc 55 rfl), FunD.bindsN F fun _ _ _ _ _ _ us hl => match us, hl with | [_, _], _ => rfl⟩
theorem fx_law_stamps (s : Saw w K) (X : K.In h) (G : h.Ns mainGlobals mg) : DB K mg "_law_stamps" s_law_stamps ["_law_source_here"] := by
  obtain ⟨fd, F⟩ := s.df 56 rfl
  exact ⟨_, fd, fun_of F, He.glo_ok X G (s.fc 56 rfl), FunD.bindsN F fun _ _ _ _ _ _ us hl => match us, hl with | [_], _ => rfl⟩
theorem fx_law_made (s : Saw w K) (X : K.In h) (G : h.Ns mainGlobals mg) : DB K mg "_law_made" s_law_made ["_law_one"] := by
  obtain ⟨fd, F⟩ := s.df 57 rfl
  exact ⟨_, fd, fun_of F, He.glo_ok X G (s.fc 57 rfl), FunD.bindsN F fun _ _ _ _ _ _ us hl => match us, hl with | [_], _ => rfl⟩
theorem fx_law_plain_list (s : Saw w K) (X : K.In h) (G : h.Ns mainGlobals mg) : DB K mg "_law_plain_list" s_law_plain_list ["_law_source_here", "_law_most"] := by
  obtain ⟨fd, F⟩ := s.df 58 rfl
  exact ⟨_, fd, fun_of F, He.glo_ok X G (s.fc 58 rfl), FunD.bindsN F fun _ _ _ _ _ _ us hl => match us, hl with | [_, _], _ => rfl⟩
theorem fx_law_is_small_step (s : Saw w K) (X : K.In h) (G : h.Ns mainGlobals mg) : DB K mg "_law_is_small_step" s_law_is_small_step ["_law_before", "_law_after", "_law_name"] := by
  obtain ⟨fd, F⟩ := s.df 59 rfl
  exact ⟨_, fd, fun_of F, He.glo_ok X G (s.fc 59 rfl), FunD.bindsN F fun _ _ _ _ _ _ us hl => match us, hl with | [_, _, _], _ => rfl⟩
theorem fx_law (s : Saw w K) (X : K.In h) (G : h.Ns mainGlobals mg) : DB K mg "law" s_law ["_law_script"] := by
  obtain ⟨fd, F⟩ := s.df 60 rfl
  exact ⟨_, fd, fun_of F, He.glo_ok X G (s.fc 60 rfl), FunD.bindsN F fun _ _ _ _ _ _ us hl => match us, hl with | [_], _ => rfl⟩
end
end Tl
end

section
set_option Elab.async false
set_option linter.all false
set_option maxRecDepth 100000
set_option maxHeartbeats 2000000
/-! The facts of the text: names, classes, tables. -/
namespace Tl
open PySem PySem.Spec PyProof.Rows L2
open He (ga ma fAd eqO relB conB tupB valsB)
section
variable {w : World} {K : PySem.W.Frag} {h : Heap} {mg : Str → Option Value}
theorem fx_T (s : Saw w K) (X : K.In h) (G : h.Ns mainGlobals mg) : Txt K mg (adK K) where
  b_len := He.free_ok X G (s.fc 73 rfl)
  b_all := He.free_ok X G (s.fc 74 rfl)
  b_any := He.free_ok X G (s.fc 75 rfl)
  b_sum := He.free_ok X G (s.fc 76 rfl)
  b_isinstance := He.free_ok X G (s.fc 77 rfl)
  b_ord := He.free_ok X G (s.fc 78 rfl)
  b_abs := He.free_ok X G (s.fc 79 rfl)
  b_min := He.free_ok X G (s.fc 80 rfl)
  b_max := He.free_ok X G (s.fc 81 rfl)
  b_sorted := He.free_ok X G (s.fc 82 rfl)
  b_int := He.free_ok X G (s.fc 83 rfl)
  b_bool := He.free_ok X G (s.fc 84 rfl)
  b_str := He.free_ok X G (s.fc 85 rfl)
  b_bytes := He.free_ok X G (s.fc 86 rfl)
  b_list := He.free_ok X G (s.fc 87 rfl)
  b_tuple := He.free_ok X G (s.fc 88 rfl)
  b_dict := He.free_ok X G (s.fc 89 rfl)
  b_range := He.free_ok X G (s.fc 90 rfl)
  b_enumerate := He.free_ok X G (s.fc 91 rfl)
  b_zip := He.free_ok X G (s.fc 92 rfl)
  b_super := He.free_ok X G (s.fc 93 rfl)
  g_LETTERS := let ⟨t, e⟩ := He.str_ok X G (s.fc 94 rfl); ⟨_, e, ⟨t, rfl⟩⟩
  g_LONG_NAME := let ⟨t, e⟩ := He.str_ok X G (s.fc 95 rfl); ⟨_, e, ⟨t, rfl⟩⟩
  g_MAGIC := let ⟨t, e⟩ := He.str_ok X G (s.fc 96 rfl); ⟨_, e, ⟨t, rfl⟩⟩
  g_KINDS := let ⟨t, e⟩ := He.str_ok X G (s.fc 97 rfl); ⟨_, e, ⟨t, rfl⟩⟩
  g_MOST_NAME := let ⟨t, e⟩ := He.int_ok X G (s.fc 98 rfl); ⟨_, e, ⟨t, rfl⟩⟩
  g_MOST_SHORT := let ⟨t, e⟩ := He.int_ok X G (s.fc 99 rfl); ⟨_, e, ⟨t, rfl⟩⟩
  g_MOST_DATA := let ⟨t, e⟩ := He.int_ok X G (s.fc 100 rfl); ⟨_, e, ⟨t, rfl⟩⟩
  g_MOST_PIECES := let ⟨t, e⟩ := He.int_ok X G (s.fc 101 rfl); ⟨_, e, ⟨t, rfl⟩⟩
  g_MOST_MODE := let ⟨t, e⟩ := He.int_ok X G (s.fc 102 rfl); ⟨_, e, ⟨t, rfl⟩⟩
  g_MOST_TIME := let ⟨t, e⟩ := He.int_ok X G (s.fc 103 rfl); ⟨_, e, ⟨t, rfl⟩⟩
  g_BLOCK := let ⟨t, e⟩ := He.int_ok X G (s.fc 104 rfl); ⟨_, e, ⟨t, rfl⟩⟩
  g_END_SIZE := let ⟨t, e⟩ := He.int_ok X G (s.fc 105 rfl); ⟨_, e, ⟨t, rfl⟩⟩
  g_MADE := ⟨_, He.glo_ok X G (s.fc 61 rfl), rfl⟩
  g_NUMBERS := ⟨_, He.glo_ok X G (s.fc 62 rfl), rfl⟩
  g_SIZES := ⟨_, He.glo_ok X G (s.fc 63 rfl), rfl⟩
  g_LETTERS_OF := ⟨_, He.glo_ok X G (s.fc 64 rfl), rfl⟩
  c_Member := ⟨_, He.glo_ok X G (s.fc 65 rfl), rfl⟩
  c_File := ⟨_, He.glo_ok X G (s.fc 66 rfl), rfl⟩
  c_Sparse := ⟨_, He.glo_ok X G (s.fc 67 rfl), rfl⟩
  c_Directory := ⟨_, He.glo_ok X G (s.fc 68 rfl), rfl⟩
  c_Symlink := ⟨_, He.glo_ok X G (s.fc 69 rfl), rfl⟩
  c_Link := ⟨_, He.glo_ok X G (s.fc 70 rfl), rfl⟩
  c_House := ⟨_, He.glo_ok X G (s.fc 71 rfl), rfl⟩
  c_Refused := ⟨_, He.glo_ok X G (s.fc 72 rfl), rfl⟩
theorem fx_cl_File (s : Saw w K) : ClF K (ga K "File") ["name", "mode", "time", "key", "data"] := cl_of (s.fc 106 rfl) (fun f hf => by
    simp only [List.mem_cons, List.not_mem_nil, or_false] at hf
    rcases hf with rfl | rfl | rfl | rfl | rfl
    · exact (s.fc 112 rfl)
    · exact (s.fc 113 rfl)
    · exact (s.fc 114 rfl)
    · exact (s.fc 115 rfl)
    · exact (s.fc 116 rfl))
theorem fx_cl_Sparse (s : Saw w K) : ClF K (ga K "Sparse") ["name", "mode", "time", "key", "size", "pieces"] := cl_of (s.fc 107 rfl) (fun f hf => by
    simp only [List.mem_cons, List.not_mem_nil, or_false] at hf
    rcases hf with rfl | rfl | rfl | rfl | rfl | rfl
    · exact (s.fc 117 rfl)
    · exact (s.fc 118 rfl)
    · exact (s.fc 119 rfl)
    · exact (s.fc 120 rfl)
    · exact (s.fc 121 rfl)
    · exact (s.fc 122 rfl))
theorem fx_cl_Directory (s : Saw w K) : ClF K (ga K "Directory") ["name", "mode", "time", "key"] := cl_of (s.fc 108 rfl) (fun f hf => by
    simp only [List.mem_cons, List.not_mem_nil, or_false] at hf
    rcases hf with rfl | rfl | rfl | rfl
    · exact (s.fc 123 rfl)
    · exact (s.fc 124 rfl)
    · exact (s.fc 125 rfl)
    · exact (s.fc 126 rfl))
theorem fx_cl_Symlink (s : Saw w K) : ClF K (ga K "Symlink") ["name", "mode", "time", "key", "target"] := cl_of (s.fc 109 rfl) (fun f hf => by
    simp only [List.mem_cons, List.not_mem_nil, or_false] at hf
    rcases hf with rfl | rfl | rfl | rfl | rfl
    · exact (s.fc 127 rfl)
    · exact (s.fc 128 rfl)
    · exact (s.fc 129 rfl)
    · exact (s.fc 130 rfl)
    · exact (s.fc 131 rfl))
theorem fx_cl_Link (s : Saw w K) : ClF K (ga K "Link") ["name", "mode", "time", "key", "target"] := cl_of (s.fc 110 rfl) (fun f hf => by
    simp only [List.mem_cons, List.not_mem_nil, or_false] at hf
    rcases hf with rfl | rfl | rfl | rfl | rfl
    · exact (s.fc 132 rfl)
    · exact (s.fc 133 rfl)
    · exact (s.fc 134 rfl)
    · exact (s.fc 135 rfl)
    · exact (s.fc 136 rfl))
theorem fx_cl_House (s : Saw w K) : ClF K (ga K "House") ["standing", "files", "rows"] := cl_of (s.fc 111 rfl) (fun f hf => by
    simp only [List.mem_cons, List.not_mem_nil, or_false] at hf
    rcases hf with rfl | rfl | rfl
    · exact (s.fc 137 rfl)
    · exact (s.fc 138 rfl)
    · exact (s.fc 139 rfl))
theorem fx_ins_File (s : Saw w K) : C8.InsC K (ga K "File") ∧ PySem.W.kitOne K (.ref (ga K "File")) (.ref (ga K "Member")) = some true ∧ PySem.W.findIn K (.ref (ga K "File")) "__eq__" = some (some (.ref (ma K (ga K "Member") "__eq__"))) := by
  obtain ⟨h1, h⟩ := He.ba (show (_ && _) = true from (s.ex 2 rfl : insB K "File" = true))
  obtain ⟨h2, h⟩ := He.ba h
  obtain ⟨h3, h⟩ := He.ba h
  obtain ⟨h4, h5⟩ := He.ba h
  exact ⟨⟨(fx_cl_File s).cl, He.eqO_ok h1, He.eqO_ok (s.ex 23 rfl), of_decide_eq_true (s.ex 24 rfl), of_decide_eq_true h2, of_decide_eq_true h3⟩, of_decide_eq_true h4, He.eqO_ok h5⟩
theorem fx_ins_Sparse (s : Saw w K) : C8.InsC K (ga K "Sparse") ∧ PySem.W.kitOne K (.ref (ga K "Sparse")) (.ref (ga K "Member")) = some true ∧ PySem.W.findIn K (.ref (ga K "Sparse")) "__eq__" = some (some (.ref (ma K (ga K "Member") "__eq__"))) := by
  obtain ⟨h1, h⟩ := He.ba (show (_ && _) = true from (s.ex 6 rfl : insB K "Sparse" = true))
  obtain ⟨h2, h⟩ := He.ba h
  obtain ⟨h3, h⟩ := He.ba h
  obtain ⟨h4, h5⟩ := He.ba h
  exact ⟨⟨(fx_cl_Sparse s).cl, He.eqO_ok h1, He.eqO_ok (s.ex 23 rfl), of_decide_eq_true (s.ex 24 rfl), of_decide_eq_true h2, of_decide_eq_true h3⟩, of_decide_eq_true h4, He.eqO_ok h5⟩
theorem fx_ins_Directory (s : Saw w K) : C8.InsC K (ga K "Directory") ∧ PySem.W.kitOne K (.ref (ga K "Directory")) (.ref (ga K "Member")) = some true ∧ PySem.W.findIn K (.ref (ga K "Directory")) "__eq__" = some (some (.ref (ma K (ga K "Member") "__eq__"))) := by
  obtain ⟨h1, h⟩ := He.ba (show (_ && _) = true from (s.ex 10 rfl : insB K "Directory" = true))
  obtain ⟨h2, h⟩ := He.ba h
  obtain ⟨h3, h⟩ := He.ba h
  obtain ⟨h4, h5⟩ := He.ba h
  exact ⟨⟨(fx_cl_Directory s).cl, He.eqO_ok h1, He.eqO_ok (s.ex 23 rfl), of_decide_eq_true (s.ex 24 rfl), of_decide_eq_true h2, of_decide_eq_true h3⟩, of_decide_eq_true h4, He.eqO_ok h5⟩
theorem fx_ins_Symlink (s : Saw w K) : C8.InsC K (ga K "Symlink") ∧ PySem.W.kitOne K (.ref (ga K "Symlink")) (.ref (ga K "Member")) = some true ∧ PySem.W.findIn K (.ref (ga K "Symlink")) "__eq__" = some (some (.ref (ma K (ga K "Member") "__eq__"))) := by
  obtain ⟨h1, h⟩ := He.ba (show (_ && _) = true from (s.ex 14 rfl : insB K "Symlink" = true))
  obtain ⟨h2, h⟩ := He.ba h
  obtain ⟨h3, h⟩ := He.ba h
  obtain ⟨h4, h5⟩ := He.ba h
  exact ⟨⟨(fx_cl_Symlink s).cl, He.eqO_ok h1, He.eqO_ok (s.ex 23 rfl), of_decide_eq_true (s.ex 24 rfl), of_decide_eq_true h2, of_decide_eq_true h3⟩, of_decide_eq_true h4, He.eqO_ok h5⟩
theorem fx_ins_Link (s : Saw w K) : C8.InsC K (ga K "Link") ∧ PySem.W.kitOne K (.ref (ga K "Link")) (.ref (ga K "Member")) = some true ∧ PySem.W.findIn K (.ref (ga K "Link")) "__eq__" = some (some (.ref (ma K (ga K "Member") "__eq__"))) := by
  obtain ⟨h1, h⟩ := He.ba (show (_ && _) = true from (s.ex 18 rfl : insB K "Link" = true))
  obtain ⟨h2, h⟩ := He.ba h
  obtain ⟨h3, h⟩ := He.ba h
  obtain ⟨h4, h5⟩ := He.ba h
  exact ⟨⟨(fx_cl_Link s).cl, He.eqO_ok h1, He.eqO_ok (s.ex 23 rfl), of_decide_eq_true (s.ex 24 rfl), of_decide_eq_true h2, of_decide_eq_true h3⟩, of_decide_eq_true h4, He.eqO_ok h5⟩
theorem ne_of {a b : Addr} (h : (!(a == b)) = true) : a ≠ b := fun z => by
  rw [z] at h
  simp at h
theorem fx_M (s : Saw w K) : Mcl K (adK K) where
  ap := ⟨ne_of (s.ex 41 rfl), ne_of (s.ex 42 rfl), ne_of (s.ex 43 rfl), ne_of (s.ex 44 rfl), ne_of (s.ex 45 rfl)⟩
  file := fx_cl_File s
  spa := fx_cl_Sparse s
  dir := fx_cl_Directory s
  sym := fx_cl_Symlink s
  lnk := fx_cl_Link s
  kind := fun m => match m with | .fil .. => (He.conB_ok (C := "File") (v := .str "file") (s.ex 3 rfl)) | .spa .. => (He.conB_ok (C := "Sparse") (v := .str "sparse") (s.ex 7 rfl)) | .dir .. => (He.conB_ok (C := "Directory") (v := .str "directory") (s.ex 11 rfl)) | .sym .. => (He.conB_ok (C := "Symlink") (v := .str "symlink") (s.ex 15 rfl)) | .lnk .. => (He.conB_ok (C := "Link") (v := .str "link") (s.ex 19 rfl))
  insC := fun m => match m with | .fil .. => (fx_ins_File s).1 | .spa .. => (fx_ins_Sparse s).1 | .dir .. => (fx_ins_Directory s).1 | .sym .. => (fx_ins_Symlink s).1 | .lnk .. => (fx_ins_Link s).1
  isM := fun m => match m with | .fil .. => (fx_ins_File s).2.1 | .spa .. => (fx_ins_Sparse s).2.1 | .dir .. => (fx_ins_Directory s).2.1 | .sym .. => (fx_ins_Symlink s).2.1 | .lnk .. => (fx_ins_Link s).2.1
theorem fx_HF (s : Saw w K) : HouF K (adK K) := ⟨fx_cl_House s, fun H => tp_ok (s.ex 25 rfl) H⟩
theorem fx_N (s : Saw w K) : NumF K (adK K) := ⟨fun H => tp_ok (s.ex 26 rfl) H, fun H => tp_ok (s.ex 27 rfl) H, fun H => tp_ok (s.ex 28 rfl) H, fun H => tp_ok (s.ex 29 rfl) H, fun H => tp_ok (s.ex 30 rfl) H, fun H => tp_ok (s.ex 31 rfl) H⟩
theorem tab_of (s : Saw w K) (i : Nat) {t : He.Tab} (h : hts[i]? = some t) : ∃ es n, KDict K w (t.1 K) es n := by
  have e := congrArg (fun z => z.1) s.D
  have e2 : (hts.map fun t => He.dicW K (t.1 K))[i]? = (hts.map fun t => some (He.keysIn w.params t.2))[i]? := congrArg (fun z => z[i]?) e
  rw [List.getElem?_map, List.getElem?_map, h] at e2
  exact He.dicW_ok (Option.some.inj e2)
theorem fx_L (s : Saw w K) : LetF K w (adK K) := by
  obtain ⟨es, n, k1, k2, k3⟩ := tab_of s 0 rfl
  have v : ∀ q ∈ [(("file" : Str), He.Dv.str "0"), ("sparse", .str "S"), ("directory", .str "5"), ("symlink", .str "2"), ("link", .str "1")], KDct K w (ga K "LETTERS_OF") q.1 (q.2.v K) := fun q hq => by
    obtain ⟨u, e, r⟩ := He.valsB_ok (s.ex 39 rfl) hq
    exact ⟨es, n, u, k1, k2, e, r⟩
  have c : ∀ {x : Str} {y : Str} {c : Nat}, y = sS [c] → KDct K w (ga K "LETTERS_OF") x (.str y) → KDct K w (ga K "LETTERS_OF") x (vS [c]) := fun e h => by subst e; exact h
  exact ⟨c (by decide +kernel) (v _ (.head _)), c (by decide +kernel) (v _ (.tail _ (.head _))), c (by decide +kernel) (v _ (.tail _ (.tail _ (.head _)))), c (by decide +kernel) (v _ (.tail _ (.tail _ (.tail _ (.head _))))), c (by decide +kernel) (v _ (.tail _ (.tail _ (.tail _ (.tail _ (.head _))))))⟩
theorem fx_S (s : Saw w K) : SizF K w (adK K) := by
  obtain ⟨es, n, k1, k2, k3⟩ := tab_of s 1 rfl
  exact ⟨k3, ⟨_, ⟨es, n, _, k1, k2, He.eqO_ok (s.ex 32 rfl), rfl⟩, fun H => tp_ok (s.ex 34 rfl) H⟩, ⟨_, ⟨es, n, _, k1, k2, He.eqO_ok (s.ex 33 rfl), rfl⟩, fun H => tp_ok (s.ex 35 rfl) H⟩, ⟨es, n, k1, k2, k3, He.eqO_ok (s.ex 36 rfl)⟩, ⟨es, n, k1, k2, k3, He.eqO_ok (s.ex 37 rfl)⟩, ⟨es, n, k1, k2, k3, He.eqO_ok (s.ex 38 rfl)⟩⟩
theorem fx_RC (s : Saw w K) : RfC K (ga K "Refused") := ⟨(s.ex 46 rfl), (s.ex 47 rfl), (s.ex 48 rfl), He.eqO_ok (s.ex 49 rfl), of_decide_eq_true (s.ex 50 rfl), of_decide_eq_true (s.ex 51 rfl), of_decide_eq_true (s.ex 52 rfl), (s.ex 53 rfl), He.eqO_ok (s.ex 54 rfl), He.eqO_ok (s.ex 55 rfl)⟩
theorem fx_R (s : Saw w K) (X : K.In h) (G : h.Ns mainGlobals mg) : RfH K mg (ga K "Refused") := ⟨He.glo_ok X G (s.fc 72 rfl), ⟨He.eqO_ok (s.ex 56 rfl), He.eqO_ok (s.ex 57 rfl), of_decide_eq_true (s.ex 50 rfl), (s.ex 48 rfl)⟩, He.eqO_ok (s.ex 58 rfl), He.eqO_ok (s.ex 59 rfl), of_decide_eq_true (s.ex 60 rfl), of_decide_eq_true (s.ex 61 rfl)⟩
theorem fx_m_File_content (s : Saw w K) : ∃ f fd, C8.Fun K "content" "File.content" s_File_content f fd ∧ Meth K (ga K "File") "content" f ∧ Binds K fd ["self"] [] := by
  obtain ⟨fd, F⟩ := s.df 63 rfl
  exact ⟨_, fd, fun8_of F, He.meth_ok (s.fc 147 rfl), FunD.bindsN F fun _ _ _ _ _ _ us hl => match us, hl with | [_], _ => rfl⟩
theorem fx_m_Sparse_content (s : Saw w K) : ∃ f fd, C8.Fun K "content" "Sparse.content" s_Sparse_content f fd ∧ Meth K (ga K "Sparse") "content" f ∧ Binds K fd ["self"] [] := by
  obtain ⟨fd, F⟩ := s.df 64 rfl
  exact ⟨_, fd, fun8_of F, He.meth_ok (s.fc 148 rfl), FunD.bindsN F fun _ _ _ _ _ _ us hl => match us, hl with | [_], _ => rfl⟩
theorem fx_m_set_thing (s : Saw w K) : ∃ f fd, C8.Fun K "set_thing" "House.set_thing" s_House_set_thing f fd ∧ Meth K (ga K "House") "set_thing" f ∧ Binds K fd ["self", "path", "thing"] [] := by
  obtain ⟨fd, F⟩ := s.df 66 rfl
  exact ⟨_, fd, fun8_of F, He.meth_ok (s.fc 149 rfl), FunD.bindsN F fun _ _ _ _ _ _ us hl => match us, hl with | [_, _, _], _ => rfl⟩
theorem fx_m_has (s : Saw w K) : ∃ f fd, C8.Fun K "has" "House.has" s_House_has f fd ∧ Meth K (ga K "House") "has" f ∧ Binds K fd ["self", "path"] [] := by
  obtain ⟨fd, F⟩ := s.df 67 rfl
  exact ⟨_, fd, fun8_of F, He.meth_ok (s.fc 150 rfl), FunD.bindsN F fun _ _ _ _ _ _ us hl => match us, hl with | [_, _], _ => rfl⟩
theorem fx_m_kind_at (s : Saw w K) : ∃ f fd, C8.Fun K "kind_at" "House.kind_at" s_House_kind_at f fd ∧ Meth K (ga K "House") "kind_at" f ∧ Binds K fd ["self", "path"] [] := by
  obtain ⟨fd, F⟩ := s.df 68 rfl
  exact ⟨_, fd, fun8_of F, He.meth_ok (s.fc 151 rfl), FunD.bindsN F fun _ _ _ _ _ _ us hl => match us, hl with | [_, _], _ => rfl⟩
theorem fx_m_entries (s : Saw w K) : ∃ f fd, C8.Fun K "entries" "House.entries" s_House_entries f fd ∧ Meth K (ga K "House") "entries" f ∧ Binds K fd ["self"] [] := by
  obtain ⟨fd, F⟩ := s.df 69 rfl
  exact ⟨_, fd, fun8_of F, He.meth_ok (s.fc 152 rfl), FunD.bindsN F fun _ _ _ _ _ _ us hl => match us, hl with | [_], _ => rfl⟩
theorem fx_m_share (s : Saw w K) : ∃ f fd, C8.Fun K "share" "House.share" s_House_share f fd ∧ Meth K (ga K "House") "share" f ∧ Binds K fd ["self", "path", "target"] [] := by
  obtain ⟨fd, F⟩ := s.df 70 rfl
  exact ⟨_, fd, fun8_of F, He.meth_ok (s.fc 153 rfl), FunD.bindsN F fun _ _ _ _ _ _ us hl => match us, hl with | [_, _, _], _ => rfl⟩
theorem fx_m_settle (s : Saw w K) : ∃ f fd, C8.Fun K "settle" "House.settle" s_House_settle f fd ∧ Meth K (ga K "House") "settle" f ∧ Binds K fd ["self"] [] := by
  obtain ⟨fd, F⟩ := s.df 71 rfl
  exact ⟨_, fd, fun8_of F, He.meth_ok (s.fc 154 rfl), FunD.bindsN F fun _ _ _ _ _ _ us hl => match us, hl with | [_], _ => rfl⟩
theorem fx_m_copied (s : Saw w K) : ∃ f fd, C8.Fun K "copied" "House.copied" s_House_copied f fd ∧ Meth K (ga K "House") "copied" f ∧ Binds K fd ["self"] [] := by
  obtain ⟨fd, F⟩ := s.df 72 rfl
  exact ⟨_, fd, fun8_of F, He.meth_ok (s.fc 155 rfl), FunD.bindsN F fun _ _ _ _ _ _ us hl => match us, hl with | [_], _ => rfl⟩
theorem fx_eq (s : Saw w K) : ∃ f fd, C8.Fun K "__eq__" "Member.__eq__" s_Member___eq f fd ∧ PySem.W.isFn K (.ref f) = true ∧ Binds K fd ["self", "other"] [] ∧ ∀ m : Mem, PySem.W.findIn K (.ref (m.cls (adK K))) "__eq__" = some (some (.ref f)) := by
  obtain ⟨fd, F⟩ := s.df 62 rfl
  exact ⟨_, fd, fun8_of F, (He.meth_ok (s.fc 146 rfl) : Meth K (ga K "Member") "__eq__" _).fn, FunD.bindsN F (fun _ _ _ _ _ _ us hl => match us, hl with | [_, _], _ => rfl), fun m => match m with | .fil .. => (fx_ins_File s).2.2 | .spa .. => (fx_ins_Sparse s).2.2 | .dir .. => (fx_ins_Directory s).2.2 | .sym .. => (fx_ins_Symlink s).2.2 | .lnk .. => (fx_ins_Link s).2.2⟩
theorem fx_hin (s : Saw w K) : ∃ f fd, C8.Fun K "__init__" "House.__init__" s_House___init f fd ∧ Mk K (ga K "House") f ∧ Binds K fd ["self"] [] := by
  obtain ⟨fd, F⟩ := s.df 65 rfl
  exact ⟨_, fd, fun8_of F, He.mkr_ok (s.fc 145 rfl), FunD.bindsN F fun _ _ _ _ _ _ us hl => match us, hl with | [_], _ => rfl⟩
end
end Tl
end

section
set_option Elab.async false
set_option linter.all false
set_option maxRecDepth 100000
set_option maxHeartbeats 2000000
/-! The facts of the text: the defs that call super, those with keyword-only arguments. -/
namespace Tl
open PySem PySem.Spec PyProof.Rows L2
open He (ga ma fAd eqO relB conB tupB valsB)
section
variable {w : World} {K : PySem.W.Frag} {h : Heap} {mg : Str → Option Value}
theorem su_of {C q : Str} {st : Stmt} {kw : Bool} (e : suW K C = suV q st) (c : suB hP K C q kw = true) : ∃ cc oc od kV doc pm an cdv ct osl, K.lookup (fAd K (C, some "__init__")) = some ⟨oc, od, .func (PySem.W.ksFn "__init__" q (C8.fnArgs st) (C8.fnBody st) (C8.fnScope st) .none kV doc pm an cdv ct cc), osl⟩ ∧ PySem.W.codeIn K cdv q = true ∧ (if kw then refB kV else noneB kV) = true ∧ cellB K cc (ga K C) = true ∧ (PySem.W.clsIn K (ga K C)).isSome = true ∧ fileB hP K cdv = true ∧ PySem.W.mroIn K (ga K C) (.ref (ga K C)) = some true := by
  unfold suW at e
  unfold suB at c
  cases q1 : K.lookup (fAd K (C, some "__init__")) with
  | none =>
    rw [q1] at c
    cases c
  | some o =>
    obtain ⟨oc, od, dt, osl⟩ := o
    rw [q1] at c e
    cases dt with
    | func fd =>
      obtain ⟨n1, n2, n3, n4, n5, n6, n7, n8, n9, n10, n11, n12, n13, n14, n15⟩ := fd
      have e2 : (some (n1, n2, n3, n4, n5, n6, n7.map (·.1), n15) : SuW) = suV q st := e
      unfold suV at e2
      simp only [Option.some.injEq, Prod.mk.injEq] at e2
      obtain ⟨h1, h2, h3, h4, h5, h6, h7, h8⟩ := e2
      subst h1 h2 h3 h4 h5 h6 h8
      match n7, h7 with
      | [(x, cc)], h7 =>
        have hx : x = "__class__" := (List.cons.inj h7).1
        subst hx
        have c2 : (PySem.W.codeIn K n13 n2 && (noneB n8 && ((if kw then refB n9 else noneB n9) && (cellB K cc (ga K C) && ((PySem.W.clsIn K (ga K C)).isSome && (fileB hP K n13 && decide (PySem.W.mroIn K (ga K C) (.ref (ga K C)) = some true))))))) = true := c
        obtain ⟨k1, c2⟩ := He.ba c2
        obtain ⟨k2, c2⟩ := He.ba c2
        obtain ⟨k3, c2⟩ := He.ba c2
        obtain ⟨k4, c2⟩ := He.ba c2
        obtain ⟨k5, c2⟩ := He.ba c2
        obtain ⟨k6, k7⟩ := He.ba c2
        cases n8 <;> try cases k2
        exact ⟨cc, oc, od, n9, n10, n11, n12, n13, n14, osl, rfl, k1, k3, k4, k5, k6, of_decide_eq_true k7⟩
    | _ => cases c
theorem cell_of {cc D : Addr} (c : cellB K cc D = true) : ∃ cl cld csl, K.lookup cc = some ⟨cl, cld, .cell (some (.ref D)), csl⟩ := by
  unfold cellB at c
  split at c
  · rename_i a b d e q
    rw [of_decide_eq_true c] at q
    exact ⟨_, _, _, q⟩
  · cases c
theorem file_of {cdv : Value} (c : fileB hP K cdv = true) : ∃ cda ccl cdd vs ccs file tf, cdv = .ref cda ∧ K.lookup cda = some ⟨ccl, cdd, .fields vs, ccs⟩ ∧ vs[2]? = some (.str file tf) ∧ (hP.main.file == file) = true := by
  cases cdv with
  | ref a =>
    have c1 : (match K.lookup a with
      | some ⟨_, _, .fields vs, _⟩ => (match (vs[2]? : Option Value) with
        | some (Value.str file _) => hP.main.file == file
        | _ => false)
      | _ => false) = true := c
    cases q1 : K.lookup a with
    | none => rw [q1] at c1; cases c1
    | some o =>
      obtain ⟨oc, od, dt, osl⟩ := o
      rw [q1] at c1
      cases dt with
      | fields vs =>
        have c2 : (match (vs[2]? : Option Value) with
          | some (Value.str file _) => hP.main.file == file
          | _ => false) = true := c1
        cases q2 : (vs[2]? : Option Value) with
        | none => rw [q2] at c2; cases c2
        | some v =>
          rw [q2] at c2
          cases v with
          | str file tf => exact ⟨_, _, _, _, _, _, _, rfl, q1, q2, c2⟩
          | _ => cases c2
      | _ => cases c1
  | _ => cases c
theorem noneB_ok {v : Value} (h : noneB v = true) : v = .none := by
  cases v <;> first | rfl | cases h
theorem refB_ok {v : Value} (h : refB v = true) : ∃ a, v = .ref a := by
  cases v <;> first | exact ⟨_, rfl⟩ | cases h
theorem mini_of (s : Saw w K) : MiniF K (ma K (ga K "Member") "__init__") ∧ ∃ of, K.lookup (ma K (ga K "Member") "__init__") = some of ∧ of.cls = .type "function" := by
  obtain ⟨fd, F⟩ := s.df 61 rfl
  obtain ⟨oc, od, dV, kV, doc, pm, an, cdv, ct, osl, h1, h2, h3, h4, h5⟩ := F.ex
  have c : miniB K = true := s.ex 20 rfl
  have h2' : K.lookup (ma K (ga K "Member") "__init__") = some ⟨oc, od, .func fd, osl⟩ := h2
  unfold miniB at c
  rw [h2'] at c
  obtain ⟨c1, c⟩ := He.ba (show (noneB fd.defaults && (noneB fd.kwdefaults && decide (oc = .type "function"))) = true from c)
  obtain ⟨c2, c3⟩ := He.ba c
  rw [h1] at c1 c2
  have e1 : dV = .none := noneB_ok c1
  have e2 : kV = .none := noneB_ok c2
  subst e1 e2
  refine ⟨⟨oc, od, doc, pm, an, cdv, ct, osl, ?_, h3⟩, _, h2', of_decide_eq_true c3⟩
  rw [h2', h1, c8_args, c8_body, c8_scope]
theorem supc_of (s : Saw w K) (X : K.In h) (G : h.Ns mainGlobals mg) {C : Str} {st : Stmt} {cc : Addr} {cdv : Value} (k4 : cellB K cc (ga K C) = true) (k5 : (PySem.W.clsIn K (ga K C)).isSome = true) (k6 : fileB hP K cdv = true) (k7 : PySem.W.mroIn K (ga K C) (.ref (ga K C)) = some true) (k8 : su5 K C = true)
    (p1 : ∃ ar, ((C8.fnArgs st).posonlyargs ++ (C8.fnArgs st).args).head? = some ar ∧ ar.arg = "self") (p2 : (C8.fnScope st).names.lookup ("super" : Str) = some NameKind.globalImplicit) (p3 : (C8.fnScope st).names.lookup ("__class__" : Str) = some NameKind.free) (p4 : (C8.fnScope st).names.lookup ("self" : Str) = some NameKind.local) (p5 : (hP.main.scope.names.lookup ("super" : Str)).isSome = false) :
    SupC hP K mg (C8.fnScope st) (C8.fnArgs st) (ga K C) (ma K (ga K "Member") "__init__") cc cdv "self" where
  cell := cell_of k4
  cls := Option.isSome_iff_exists.mp k5
  code := file_of k6
  par := p1
  sub := k7
  nosup := (fx_T s X G).b_super
  ks := p2
  kc := p3
  ka := p4
  top := p5
  opq := He.eqO_ok (s.ex 22 rfl)
  meth := He.eqO_ok k8
  fn := s.ex 21 rfl
  ty := (mini_of s).2
theorem fx_su_File (s : Saw w K) (X : K.In h) (G : h.Ns mainGlobals mg) : ∃ f, SupD hP K mg "File.__init__" s_File___init (ga K "File") (ma K (ga K "Member") "__init__") f ∧ Mk K (ga K "File") f := by
  have e := congrArg (fun z => z.2[0]?) s.D
  obtain ⟨cc, oc, od, kV, doc, pm, an, cdv, ct, osl, k1, k2, k3, k4, k5, k6, k7⟩ := su_of (kw := true) (Option.some.inj e) (s.ex 0 rfl)
  obtain ⟨kD, rfl⟩ := refB_ok k3
  exact ⟨_, ⟨cc, oc, od, kD, doc, pm, an, cdv, ct, osl, k1, k2, supc_of s X G k4 k5 k6 k7 (s.ex 1 rfl) ⟨_, rfl, rfl⟩ (by decide +kernel) (by decide +kernel) (by decide +kernel) (by decide +kernel)⟩, He.mkr_ok (s.fc 140 rfl)⟩
theorem fx_su_Sparse (s : Saw w K) (X : K.In h) (G : h.Ns mainGlobals mg) : ∃ f, SupD hP K mg "Sparse.__init__" s_Sparse___init (ga K "Sparse") (ma K (ga K "Member") "__init__") f ∧ Mk K (ga K "Sparse") f := by
  have e := congrArg (fun z => z.2[1]?) s.D
  obtain ⟨cc, oc, od, kV, doc, pm, an, cdv, ct, osl, k1, k2, k3, k4, k5, k6, k7⟩ := su_of (kw := true) (Option.some.inj e) (s.ex 4 rfl)
  obtain ⟨kD, rfl⟩ := refB_ok k3
  exact ⟨_, ⟨cc, oc, od, kD, doc, pm, an, cdv, ct, osl, k1, k2, supc_of s X G k4 k5 k6 k7 (s.ex 5 rfl) ⟨_, rfl, rfl⟩ (by decide +kernel) (by decide +kernel) (by decide +kernel) (by decide +kernel)⟩, He.mkr_ok (s.fc 141 rfl)⟩
theorem fx_su_Directory (s : Saw w K) (X : K.In h) (G : h.Ns mainGlobals mg) : ∃ f, SupD hP K mg "Directory.__init__" s_Directory___init (ga K "Directory") (ma K (ga K "Member") "__init__") f ∧ Mk K (ga K "Directory") f := by
  have e := congrArg (fun z => z.2[2]?) s.D
  obtain ⟨cc, oc, od, kV, doc, pm, an, cdv, ct, osl, k1, k2, k3, k4, k5, k6, k7⟩ := su_of (kw := true) (Option.some.inj e) (s.ex 8 rfl)
  obtain ⟨kD, rfl⟩ := refB_ok k3
  exact ⟨_, ⟨cc, oc, od, kD, doc, pm, an, cdv, ct, osl, k1, k2, supc_of s X G k4 k5 k6 k7 (s.ex 9 rfl) ⟨_, rfl, rfl⟩ (by decide +kernel) (by decide +kernel) (by decide +kernel) (by decide +kernel)⟩, He.mkr_ok (s.fc 142 rfl)⟩
theorem fx_su_Symlink (s : Saw w K) (X : K.In h) (G : h.Ns mainGlobals mg) : ∃ f, SupD hP K mg "Symlink.__init__" s_Symlink___init (ga K "Symlink") (ma K (ga K "Member") "__init__") f ∧ Mk K (ga K "Symlink") f := by
  have e := congrArg (fun z => z.2[3]?) s.D
  obtain ⟨cc, oc, od, kV, doc, pm, an, cdv, ct, osl, k1, k2, k3, k4, k5, k6, k7⟩ := su_of (kw := true) (Option.some.inj e) (s.ex 12 rfl)
  obtain ⟨kD, rfl⟩ := refB_ok k3
  exact ⟨_, ⟨cc, oc, od, kD, doc, pm, an, cdv, ct, osl, k1, k2, supc_of s X G k4 k5 k6 k7 (s.ex 13 rfl) ⟨_, rfl, rfl⟩ (by decide +kernel) (by decide +kernel) (by decide +kernel) (by decide +kernel)⟩, He.mkr_ok (s.fc 143 rfl)⟩
theorem fx_su_Link (s : Saw w K) (X : K.In h) (G : h.Ns mainGlobals mg) : ∃ f, SupD hP K mg "Link.__init__" s_Link___init (ga K "Link") (ma K (ga K "Member") "__init__") f ∧ Mk K (ga K "Link") f := by
  have e := congrArg (fun z => z.2[4]?) s.D
  obtain ⟨cc, oc, od, kV, doc, pm, an, cdv, ct, osl, k1, k2, k3, k4, k5, k6, k7⟩ := su_of (kw := true) (Option.some.inj e) (s.ex 16 rfl)
  obtain ⟨kD, rfl⟩ := refB_ok k3
  exact ⟨_, ⟨cc, oc, od, kD, doc, pm, an, cdv, ct, osl, k1, k2, supc_of s X G k4 k5 k6 k7 (s.ex 17 rfl) ⟨_, rfl, rfl⟩ (by decide +kernel) (by decide +kernel) (by decide +kernel) (by decide +kernel)⟩, He.mkr_ok (s.fc 144 rfl)⟩
theorem fx_rf (s : Saw w K) (X : K.In h) (G : h.Ns mainGlobals mg) : ∃ f, SupRf hP K mg (ga K "Refused") f ∧ PySem.W.findIn K (.ref (ga K "Refused")) "__init__" = some (some (.ref f)) ∧ PySem.W.typeIn K (.ref f) = some (.type "function") := by
  have e := congrArg (fun z => z.2[5]?) s.D
  obtain ⟨cc, oc, od, kV, doc, pm, an, cdv, ct, osl, k1, k2, k3, k4, k5, k6, k7⟩ := su_of (kw := false) (Option.some.inj e) (s.ex 40 rfl)
  have e2 : kV = .none := noneB_ok k3
  subst e2
  exact ⟨_, ⟨cc, oc, od, doc, pm, an, cdv, ct, osl, k1, k2, ⟨cell_of k4, Option.isSome_iff_exists.mp k5, file_of k6, ⟨_, rfl, rfl⟩, k7, (fx_T s X G).b_super, by decide +kernel, by decide +kernel, by decide +kernel, by decide +kernel, He.eqO_ok (s.ex 22 rfl), He.eqO_ok (s.ex 64 rfl)⟩⟩, He.eqO_ok (s.ex 62 rfl), of_decide_eq_true (s.ex 63 rfl)⟩
theorem fx_header (s : Saw w K) (X : K.In h) (G : h.Ns mainGlobals mg) : DBI K mg "header" s_header ["kind", "name", "mode", "size", "time", "target"] kwH := by
  obtain ⟨fd, F⟩ := s.df 27 rfl
  refine ⟨_, fd, fun_of (st := s_header) F, He.glo_ok X G (s.fc 27 rfl), fun us ws h1 h2 => ?_⟩
  obtain ⟨⟨oc, od, kV, doc, pm, an, cdv, ct, osl, rfl, _, _⟩, _⟩ := fun_of (st := s_header) F
  match us, ws, h1, h2 with
  | [u1, u2], [w1, w2, w3, w4], _, _ => rfl
theorem fx_sparse (s : Saw w K) (X : K.In h) (G : h.Ns mainGlobals mg) : DBI K mg "sparse" s_sparse ["name", "found", "data", "mode", "time"] kwM := by
  obtain ⟨fd, F⟩ := s.df 47 rfl
  refine ⟨_, fd, fun_of (st := s_sparse) F, He.glo_ok X G (s.fc 47 rfl), fun us ws h1 h2 => ?_⟩
  obtain ⟨⟨oc, od, kV, doc, pm, an, cdv, ct, osl, rfl, _, _⟩, _⟩ := fun_of (st := s_sparse) F
  match us, ws, h1, h2 with
  | [u1, u2, u3], [w1, w2], _, _ => rfl
theorem fx_scan (s : Saw w K) (X : K.In h) (G : h.Ns mainGlobals mg) : DBD K mg "scan" s_scan ["data", "offset"] [.int 0] := by
  obtain ⟨fd, F⟩ := s.df 50 rfl
  obtain ⟨ds, hv, hb⟩ := FunD.binds0 (ps := ["data", "offset"]) F 1 (List.cons_ne_nil _ _) rfl fun D doc pm an cdv ct us ks h1 h2 => by
    match us, ks, h1, h2 with
    | [u], [k], _, _ => exact ⟨_, _, _, _, _, _, rfl, rfl, rfl⟩
  exact ⟨_, fd, ds, fun_of (st := s_scan) F, He.glo_ok X G (s.fc 50 rfl), hb, hv⟩
end
end Tl
end

section
set_option Elab.async false
set_option linter.all false
set_option maxRecDepth 100000
set_option maxHeartbeats 2000000
/-! All facts of the text; the head's equation from its parts. -/
namespace Tl
open PySem PySem.Spec PyProof.Rows L2
theorem all_facts {w : World} {K : PySem.W.Frag} {h : Heap} {mg : Str → Option Value} (s : Saw w K) (X : K.In h) (G : h.Ns mainGlobals mg) : AllF hP w K mg (adK K) where
  T := fx_T s X G
  M := fx_M s
  HF := fx_HF s
  N := fx_N s
  S := fx_S s
  L := fx_L s
  RC := fx_RC s
  R := fx_R s X G
  ini := ⟨_, (mini_of s).1, fx_su_File s X G, fx_su_Sparse s X G, fx_su_Directory s X G, fx_su_Symlink s X G, fx_su_Link s X G⟩
  F_is_integer := fx_is_integer s X G
  F_is_within := fx_is_within s X G
  F_blob := fx_blob s X G
  F_look_data := fx_look_data s X G
  F_is_name := fx_is_name s X G
  F_is_path := fx_is_path s X G
  F_is_short := fx_is_short s X G
  F_look_name := fx_look_name s X G
  F_look_stamps := fx_look_stamps s X G
  F_is_piece := fx_is_piece s X G
  F_are_spans := fx_are_spans s X G
  F_are_pieces := fx_are_pieces s X G
  eq := fx_eq s
  m_File_content := fx_m_File_content s
  m_Sparse_content := fx_m_Sparse_content s
  hin := fx_hin s
  m_set_thing := fx_m_set_thing s
  m_has := fx_m_has s
  m_kind_at := fx_m_kind_at s
  m_entries := fx_m_entries s
  m_share := fx_m_share s
  m_settle := fx_m_settle s
  m_copied := fx_m_copied s
  F_above := fx_above s X G
  F_refusal_at := fx_refusal_at s X G
  F_refusal := fx_refusal s X G
  F_put_at := fx_put_at s X G
  rf := fx_rf s X G
  F_put_member := fx_put_member s X G
  F_unpack_one := fx_unpack_one s X G
  F_unpacked := fx_unpacked s X G
  F_law_walk := fx_law_walk s X G
  F_walked := fx_walked s X G
  F_law_house := fx_law_house s X G
  F_text_field := fx_text_field s X G
  F_magic_field := fx_magic_field s X G
  F_sum_of := fx_sum_of s X G
  F_octal_field := fx_octal_field s X G
  F_checksum_field := fx_checksum_field s X G
  F_header := fx_header s X G
  F_text_of := fx_text_of s X G
  F_number_of := fx_number_of s X G
  F_kind_of := fx_kind_of s X G
  F_name_of := fx_name_of s X G
  F_target_of := fx_target_of s X G
  F_numbers_of := fx_numbers_of s X G
  F_is_name_right := fx_is_name_right s X G
  F_is_target_right := fx_is_target_right s X G
  F_is_kind_right := fx_is_kind_right s X G
  F_wrong_number := fx_wrong_number s X G
  F_wrong_field := fx_wrong_field s X G
  F_padded := fx_padded s X G
  F_map_block := fx_map_block s X G
  F_stored := fx_stored s X G
  F_long_part := fx_long_part s X G
  F_target_text := fx_target_text s X G
  F_bytes_of := fx_bytes_of s X G
  F_written := fx_written s X G
  F_torn := fx_torn s X G
  F_sparse := fx_sparse s X G
  F_at_header := fx_at_header s X G
  F_look_at := fx_look_at s X G
  F_scan := fx_scan s X G
  F_whole_numbers := fx_whole_numbers s X G
  F_spans_of := fx_spans_of s X G
  F_law_source := fx_law_source s X G
  F_law_draw := fx_law_draw s X G
  F_law_random_numbers := fx_law_random_numbers s X G
  F_law_stamps := fx_law_stamps s X G
  F_law_made := fx_law_made s X G
  F_law_plain_list := fx_law_plain_list s X G
  F_law_is_small_step := fx_law_is_small_step s X G
  F_law := fx_law s X G
theorem run_join {β1 β2 : Type} {o1 : PySem.W.Frag → β1} {v1 : World → β1} {o2 : PySem.W.Frag → β2} {v2 : World → β2} {w : World} (h1 : hREp β1 o1 v1 w) (h2 : hREp β2 o2 v2 w) : hREp (β1 × β2) (fun K => (o1 K, o2 K)) (fun w => (v1 w, v2 w)) w := fun os => by
  obtain ⟨s1, a1, b1⟩ := Option.map_eq_some_iff.mp (h1 os)
  obtain ⟨s2, a2, b2⟩ := Option.map_eq_some_iff.mp (h2 os)
  have e : s2 = s1 := Option.some.inj (a2.symm.trans a1)
  subst e
  refine Option.map_eq_some_iff.mpr ⟨s2, a1, ?_⟩
  have c1 := congrArg (fun z => z.1) b1
  have c2 := congrArg (fun z => z.2.1) b1
  have c3 := congrArg (fun z => z.2.2) b1
  have c4 := congrArg (fun z => z.2.2) b2
  exact Prod.ext c1 (Prod.ext c2 (Prod.ext c3 c4))
end Tl
end

section
set_option Elab.async false
set_option linter.all false
set_option maxRecDepth 100000
set_option maxHeartbeats 0
/-! The law holds. -/
namespace Tl
open PySem PySem.Spec PyProof.Rows L2
structure HRE (β : Type) (o : PySem.W.Frag → β) (v : World → β) (w : World) : Prop where
  run : hREp β o v w
theorem hre_join {β1 β2 : Type} {o1 : PySem.W.Frag → β1} {v1 : World → β1} {o2 : PySem.W.Frag → β2} {v2 : World → β2} {w : World} (h1 : HRE β1 o1 v1 w) (h2 : HRE β2 o2 v2 w) : HRE (β1 × β2) (fun K => (o1 K, o2 K)) (fun w => (v1 w, v2 w)) w := ⟨run_join h1.run h2.run⟩
theorem hre_row {β : Type} {o : PySem.W.Frag → β} {v : World → β} (h1 : ∀ w : World, HRE β o v (w.withFollow "special-get-raises" false)) (h2 : ∀ w : World, HRE β o v (w.withFollow "special-get-raises" true)) (w : World) : HRE β o v w := PySem.W.byRow2 "special-get-raises" (P := fun w : World => HRE β o v w) h1 h2 w
theorem rep_split {α : Type} {f : α → Bool} {l : List α} {n : Nat} (h1 : (l.take n).map f = List.replicate (l.take n).length true) (h2 : (l.drop n).map f = List.replicate (l.drop n).length true) : l.map f = List.replicate l.length true := by
  have e : l.map f = (l.take n).map f ++ (l.drop n).map f := by rw [← List.map_append, List.take_append_drop]
  rw [e, h1, h2, List.replicate_append_replicate, ← List.length_append, List.take_append_drop]
theorem rep_two {xs ys : List Bool} {n m : Nat} (h1 : xs = List.replicate n true) (h2 : ys = List.replicate m true) : xs ++ ys = List.replicate (n + m) true := by
  rw [h1, h2, List.replicate_append_replicate]
theorem hre_Af (w : World) : HRE (List Bool × (List (Option (List (Option (PySem.Str × Int)))) × List SuW)) (fun K => (exB hP K, (hts.map fun t => He.dicW K (t.1 K), [suW K "File", suW K "Sparse", suW K "Directory", suW K "Symlink", suW K "Link", suW K "Refused"]))) (fun w : World => (List.replicate hB true, (hts.map fun t => some (He.keysIn w.params t.2), [suV "File.__init__" s_File___init, suV "Sparse.__init__" s_Sparse___init, suV "Directory.__init__" s_Directory___init, suV "Symlink.__init__" s_Symlink___init, suV "Link.__init__" s_Link___init, suV "Refused.__init__" s_Refused___init]))) (w.withFollow "special-get-raises" false) := HRE.mk (run_TrA w)
theorem hre_At (w : World) : HRE (List Bool × (List (Option (List (Option (PySem.Str × Int)))) × List SuW)) (fun K => (exB hP K, (hts.map fun t => He.dicW K (t.1 K), [suW K "File", suW K "Sparse", suW K "Directory", suW K "Symlink", suW K "Link", suW K "Refused"]))) (fun w : World => (List.replicate hB true, (hts.map fun t => some (He.keysIn w.params t.2), [suV "File.__init__" s_File___init, suV "Sparse.__init__" s_Sparse___init, suV "Directory.__init__" s_Directory___init, suV "Symlink.__init__" s_Symlink___init, suV "Link.__init__" s_Link___init, suV "Refused.__init__" s_Refused___init]))) (w.withFollow "special-get-raises" true) := HRE.mk (run_TrAt w)
theorem hre_A (w : World) : HRE (List Bool × (List (Option (List (Option (PySem.Str × Int)))) × List SuW)) (fun K => (exB hP K, (hts.map fun t => He.dicW K (t.1 K), [suW K "File", suW K "Sparse", suW K "Directory", suW K "Symlink", suW K "Link", suW K "Refused"]))) (fun w : World => (List.replicate hB true, (hts.map fun t => some (He.keysIn w.params t.2), [suV "File.__init__" s_File___init, suV "Sparse.__init__" s_Sparse___init, suV "Directory.__init__" s_Directory___init, suV "Symlink.__init__" s_Symlink___init, suV "Link.__init__" s_Link___init, suV "Refused.__init__" s_Refused___init]))) w := hre_row hre_Af hre_At w
theorem hre_Bf (w : World) : HRE (List He.FnW) (fun K => hfn.map fun d => He.fnW K d.at_) (fun w : World => hfn.map He.DefD.val) (w.withFollow "special-get-raises" false) := HRE.mk (run_TrB w)
theorem hre_Bt (w : World) : HRE (List He.FnW) (fun K => hfn.map fun d => He.fnW K d.at_) (fun w : World => hfn.map He.DefD.val) (w.withFollow "special-get-raises" true) := HRE.mk (run_TrBt w)
theorem hre_B (w : World) : HRE (List He.FnW) (fun K => hfn.map fun d => He.fnW K d.at_) (fun w : World => hfn.map He.DefD.val) w := hre_row hre_Bf hre_Bt w
theorem hre_Cf (w : World) : HRE (List Bool) (fun K => hfa.map fun f => f.ok K) (fun w : World => List.replicate hfa.length true) (w.withFollow "special-get-raises" false) := HRE.mk (run_TrC w)
theorem hre_Ct (w : World) : HRE (List Bool) (fun K => hfa.map fun f => f.ok K) (fun w : World => List.replicate hfa.length true) (w.withFollow "special-get-raises" true) := HRE.mk (run_TrCt w)
theorem hre_C (w : World) : HRE (List Bool) (fun K => hfa.map fun f => f.ok K) (fun w : World => List.replicate hfa.length true) w := hre_row hre_Cf hre_Ct w
theorem hre_Ef (w : World) : HRE (List Bool) (fun K => (hfn.take 31).map fun d => d.ok K) (fun w : World => List.replicate (hfn.take 31).length true) (w.withFollow "special-get-raises" false) := HRE.mk (run_TrE w)
theorem hre_Et (w : World) : HRE (List Bool) (fun K => (hfn.take 31).map fun d => d.ok K) (fun w : World => List.replicate (hfn.take 31).length true) (w.withFollow "special-get-raises" true) := HRE.mk (run_TrEt w)
theorem hre_E (w : World) : HRE (List Bool) (fun K => (hfn.take 31).map fun d => d.ok K) (fun w : World => List.replicate (hfn.take 31).length true) w := hre_row hre_Ef hre_Et w
theorem hre_Gf (w : World) : HRE (List Bool) (fun K => (hfn.drop 31).map fun d => d.ok K) (fun w : World => List.replicate (hfn.drop 31).length true) (w.withFollow "special-get-raises" false) := HRE.mk (run_TrG w)
theorem hre_Gt (w : World) : HRE (List Bool) (fun K => (hfn.drop 31).map fun d => d.ok K) (fun w : World => List.replicate (hfn.drop 31).length true) (w.withFollow "special-get-raises" true) := HRE.mk (run_TrGt w)
theorem hre_G (w : World) : HRE (List Bool) (fun K => (hfn.drop 31).map fun d => d.ok K) (fun w : World => List.replicate (hfn.drop 31).length true) w := hre_row hre_Gf hre_Gt w
abbrev jT : Type := ((List Bool × (List (Option (List (Option (PySem.Str × Int)))) × List SuW)) × ((List He.FnW) × ((List Bool) × ((List Bool) × ((List Bool))))))
def jO (K : PySem.W.Frag) : jT := ((exB hP K, (hts.map fun t => He.dicW K (t.1 K), [suW K "File", suW K "Sparse", suW K "Directory", suW K "Symlink", suW K "Link", suW K "Refused"])), (hfn.map fun d => He.fnW K d.at_, (hfa.map fun f => f.ok K, ((hfn.take 31).map fun d => d.ok K, ((hfn.drop 31).map fun d => d.ok K)))))
def jV (w : World) : jT := ((List.replicate hB true, (hts.map fun t => some (He.keysIn w.params t.2), [suV "File.__init__" s_File___init, suV "Sparse.__init__" s_Sparse___init, suV "Directory.__init__" s_Directory___init, suV "Symlink.__init__" s_Symlink___init, suV "Link.__init__" s_Link___init, suV "Refused.__init__" s_Refused___init])), (hfn.map He.DefD.val, (List.replicate hfa.length true, (List.replicate (hfn.take 31).length true, (List.replicate (hfn.drop 31).length true)))))
theorem hre_all (w : World) : HRE jT jO jV w := hre_join (hre_A w) (hre_join (hre_B w) (hre_join (hre_C w) (hre_join (hre_E w) (hre_G w))))
theorem saw_of {w : World} {K : PySem.W.Frag} (e : jO K = jV w) : Saw w K := ⟨congrArg (fun z : jT => z.1.1) e, congrArg (fun z : jT => z.2.1) e, rep_two (congrArg (fun z : jT => z.2.2.1) e) (rep_split (congrArg (fun z : jT => z.2.2.2.1) e) (congrArg (fun z : jT => z.2.2.2.2) e)), congrArg (fun z : jT => z.1.2) e⟩
theorem obp_eq {β : Type} (o : PySem.W.Frag → β) (v : World → β) (s : PySem.W.SharedT) : obp o s = (hkp β o v).obs s.abs := by
  have e : HandSHeadRun.getT s = s.abs.heap.get? := funext (HandSHeadRun.getT_eq s)
  show o (hK (HandSHeadRun.getT s)) = o (hK s.abs.heap.get?)
  rw [e]
theorem at_law {w : World} {K : PySem.W.Frag} {h : Heap} {mg : Str → Option Value} {f : Addr} (s : Saw w K) (X : K.In h) (G : h.Ns mainGlobals mg) (hfa : mg ("law" : Str) = some (.ref f)) :
    ∃ fd : FuncData, (∀ (s : Shared) (v : Value), BindsTo s fd ⟨[v], []⟩ [("_law_script", v)]) ∧ ∀ base : Heap, K.In base → base.Ns mainGlobals mg → FnOk hP w K mg base C8.CX0 12 f fd ["_law_script"] (spV 1 (rLaw K)) := by
  obtain ⟨fd, F⟩ := s.df 60 rfl
  have hm := He.glo_ok X G (s.fc 60 rfl)
  have e := hfa.symm.trans hm
  cases e
  have b := FunD.bindsA (ps := ["_law_script"]) F fun _ _ _ _ _ _ us hl => match us, hl with | [_], _ => rfl
  exact ⟨fd, fun s v => b s [v] rfl, fun base _ _ => all_law (all_facts s X G) (fun_of (st := s_law) F)⟩
end Tl
end

section
set_option Elab.async false
set_option linter.all false
set_option maxRecDepth 100000
set_option maxHeartbeats 0
open PySem PySem.W PySem.Calls PyProof.Rows
theorem PySem.Challenge.cw_tarhouse_k80_whole_torn_archives_unpacke_holds : PySem.Challenge.rw_tarhouse_k80_whole_torn_archives_unpacke.Holds := by
  w_on; o_law
  refine HandSHeadRun.head_any (r := OpenLaw.row PySem.Challenge.rw_tarhouse_k80_whole_torn_archives_unpacke) (q := view (OpenLaw.row PySem.Challenge.rw_tarhouse_k80_whole_torn_archives_unpacke).prog [110]) (H := Tl.hkp Tl.jT Tl.jO Tl.jV) (ob := Tl.obp Tl.jO) (M := 8000) (loose := Tl.hnames) (d := HandSHeadRun.topDef (OpenLaw.row PySem.Challenge.rw_tarhouse_k80_whole_torn_archives_unpacke).prog 110) (kwd := []) (Tl.obp_eq Tl.jO Tl.jV)
    (by kernel_rfl) (fun s => by kernel_rfl) (fun w => (Tl.hre_all w).run) (by kernel_rfl) (by kernel_rfl) (by kernel_rfl) (by rfl) (by first | assumption | decide +kernel) (by decide +kernel) ⟨rfl, rfl, rfl, rfl, rfl, by decide +kernel⟩ ?hw ?hc
  case hw => w_witness2
  case hc =>
    refine L2.walk_ofE (l := PySem.Challenge.rw_tarhouse_k80_whole_torn_archives_unpacke) (n := 63) (k := 12) (x := "_law_script") (CX := C8.CX0) rfl (by decide) (by kernel_rfl) ⟨rfl, by decide, by decide⟩ ?F (fun _ _ _ _ z => z)
    intro w mg fa h Y G hmg0
    obtain ⟨K, KX, c⟩ := Y
    have hmg : mg ("law" : PySem.Str) = some (.ref fa) := by
      have e : (HandSHeadRun.topDef (OpenLaw.row PySem.Challenge.rw_tarhouse_k80_whole_torn_archives_unpacke).prog 110).name = ("law" : PySem.Str) := by kernel_rfl
      rw [← e]
      exact hmg0
    obtain ⟨fd, hb, hF⟩ := Tl.at_law (Tl.saw_of c) KX G hmg
    exact ⟨K, fd, Tl.spV 1 (Tl.rLaw K), KX, hb, fun H a ns hl _ hS => ⟨rfl, .bl true, ⟨a, ns, rfl, hS, hl, rfl⟩, fun _ _ => rfl⟩, hF⟩
end
