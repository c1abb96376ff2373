import PyProof.Rows.All
import Wide.All
import OpenK.AllK
import Wide.FinOn
import PySem.Challenge.RW_xm0088_01
set_option Elab.async false
set_option exponentiation.threshold 2000
set_option compiler.extract_closed false
namespace Mine
theorem om_room {a N k M R : Nat} (h : a + N < R) (hk : k + M ≤ N) : a + k + M < R := by omega
theorem om_le {x M N : Nat} (h : x ≤ M) (hN : M ≤ N) : x ≤ N := Nat.le_trans h hN
theorem om_le2 {x M N : Nat} (h : x < M) (hN : M ≤ N) : x ≤ N := Nat.le_trans (Nat.le_of_lt h) hN
theorem om_lt {x M N : Nat} (h : x ≤ M) (hN : M < N) : x < N := Nat.lt_of_le_of_lt h hN
theorem om_lt2 {x M N : Nat} (h : x < M) (hN : M ≤ N) : x < N := Nat.lt_of_lt_of_le h hN
theorem om_c1 {x M : Nat} {N : Int} (h : x ≤ M) (hN : (M : Int) < N) : (x : Int) < N := by omega
theorem om_c2 {x M : Nat} {N : Int} (h : x < M) (hN : (M : Int) ≤ N) : (x : Int) < N := by omega
theorem om_n1 {x : Nat} {N : Int} (h : N < 0) : N < (x : Int) := by omega
theorem om_n2 {x : Nat} {N : Int} (h : N ≤ 0) : N ≤ (x : Int) := by omega
theorem om_p1 {a x : Nat} (h : a < x) : 0 < x := by omega
theorem om_p2 {a x : Nat} (h : a ≤ x) (h0 : 0 < a) : 0 < x := by omega
theorem om_ile {x M N : Int} (h : x ≤ M) (hN : M ≤ N) : x ≤ N := Int.le_trans h hN
theorem om_ilt {x M N : Int} (h : x < M) (hN : M ≤ N) : x < N := Int.lt_of_lt_of_le h hN
theorem om_eqlt {a b k : Nat} (h : k < a) (e : a = b) : k < b := e ▸ h
theorem om_eqlt2 {a b k : Nat} (h : k < a) (e : b = a) : k < b := e ▸ h
theorem prod4 {α β γ δ : Type} {motive : α × β × γ × δ → Prop} (h : ∀ a b c d, motive (a, b, c, d)) (x : α × β × γ × δ) : motive x := h x.1 x.2.1 x.2.2.1 x.2.2.2
theorem prod5 {α β γ δ ε : Type} {motive : α × β × γ × δ × ε → Prop} (h : ∀ a b c d e, motive (a, b, c, d, e)) (x : α × β × γ × δ × ε) : motive x := h x.1 x.2.1 x.2.2.1 x.2.2.2.1 x.2.2.2.2
theorem prod7 {α β γ δ ε ζ η : Type} {motive : α × β × γ × δ × ε × ζ × η → Prop} (h : ∀ a b c d e f g, motive (a, b, c, d, e, f, g)) (x : α × β × γ × δ × ε × ζ × η) : motive x := h x.1 x.2.1 x.2.2.1 x.2.2.2.1 x.2.2.2.2.1 x.2.2.2.2.2.1 x.2.2.2.2.2.2
end Mine
namespace Mine
theorem om_words : True := by
  k_with "om" => first | with_reducible assumption | decide | with_reducible exact Mine.om_room (by assumption) (by decide) | with_reducible exact Mine.om_lt (by assumption) (by decide) | with_reducible exact Mine.om_lt2 (by assumption) (by decide) | with_reducible exact Mine.om_le (by assumption) (by decide) | with_reducible exact Mine.om_le2 (by assumption) (by decide) | with_reducible exact Mine.om_c1 (by assumption) (by decide) | with_reducible exact Mine.om_c2 (by assumption) (by decide) | with_reducible exact Mine.om_n1 (by decide) | with_reducible exact Mine.om_n2 (by decide) | with_reducible exact Mine.om_p1 (by assumption) | with_reducible exact Mine.om_p2 (by assumption) (by decide) | with_reducible exact Mine.om_ile (by assumption) (by decide) | with_reducible exact Mine.om_ilt (by assumption) (by decide) | with_reducible exact Mine.om_eqlt (by assumption) (by assumption) | with_reducible exact Mine.om_eqlt2 (by assumption) (by assumption)
  trivial
end Mine
local macro_rules | `(tactic| omega) => `(tactic| first | k_extra "om" | lia)
section
open PySem PySem.W PyProof.Rows
namespace Mine
theorem find_same : @Manifest.find? = @Manifest.find? := rfl
name_quick tw8075568018651887793 for PySem.Manifest.find? by Mine.find_same
name_quick tw6191540274348754525 for PySem.Manifest.find? by Mine.find_same
name_quick tw14979626087600564940 for PySem.Manifest.find? by Mine.find_same
name_quick tw13261706936674628187 for PySem.Manifest.find? by Mine.find_same
name_quick tw13375533955310729550 for PySem.Manifest.find? by Mine.find_same
name_quick tw3830411482411394332 for PySem.Manifest.find? by Mine.find_same
name_quick tw15916391134991225584 for PySem.Manifest.find? by Mine.find_same
name_quick tw6046669096722555762 for PySem.Manifest.find? by Mine.find_same
name_quick tw7232422423428716515 for PySem.Manifest.find? by Mine.find_same
name_quick tw6004533443673955352 for PySem.Manifest.find? by Mine.find_same
name_quick tw43969757491396457 for PySem.Manifest.find? by Mine.find_same
name_quick tw1291980286583624508 for PySem.Manifest.find? by Mine.find_same
name_quick tw1258717718454355964 for PySem.Manifest.find? by Mine.find_same
name_quick tw12233582284571471492 for PySem.Manifest.find? by Mine.find_same
name_quick tw1829445100760108279 for PySem.Manifest.find? by Mine.find_same
name_quick tw4011157648589011858 for PySem.Manifest.find? by Mine.find_same
name_quick tw10010936943081839664 for PySem.Manifest.find? by Mine.find_same
name_quick tw14311459727803291754 for PySem.Manifest.find? by Mine.find_same
name_quick tw13215998728584607739 for PySem.Manifest.find? by Mine.find_same
name_quick tw15168306246750427876 for PySem.Manifest.find? by Mine.find_same
name_quick tw3891137856419664920 for PySem.Manifest.find? by Mine.find_same
name_quick tw4658958612460137192 for PySem.Manifest.find? by Mine.find_same
name_quick tw14537914154153760125 for PySem.Manifest.find? by Mine.find_same
name_quick tw3577408171920636059 for PySem.Manifest.find? by Mine.find_same
name_quick tw17164873540382356111 for PySem.Manifest.find? by Mine.find_same
name_quick tw4527066259768149269 for PySem.Manifest.find? by Mine.find_same
name_quick tw14333388528381170442 for PySem.Manifest.find? by Mine.find_same
name_quick tw8579058602437062094 for PySem.Manifest.find? by Mine.find_same
name_quick tw17111948838632640456 for PySem.Manifest.find? by Mine.find_same
name_quick tw4292500188555128830 for PySem.Manifest.find? by Mine.find_same
name_quick tw16531745337717519161 for PySem.Manifest.find? by Mine.find_same
name_quick tw14834023430324568649 for PySem.Manifest.find? by Mine.find_same
name_quick tw13016732220969518872 for PySem.Manifest.find? by Mine.find_same
name_quick tw136631920214876835 for PySem.Manifest.find? by Mine.find_same
name_quick tw13317431791736044220 for PySem.Manifest.find? by Mine.find_same
name_quick tw6122645084068987007 for PySem.Manifest.find? by Mine.find_same
name_quick tw12290603225136948437 for PySem.Manifest.find? by Mine.find_same
name_quick tw1537898542681612871 for PySem.Manifest.find? by Mine.find_same
name_quick tw17476080006546285661 for PySem.Manifest.find? by Mine.find_same
name_quick tw5529568453561195837 for PySem.Manifest.find? by Mine.find_same
name_quick tw16593013826814733010 for PySem.Manifest.find? by Mine.find_same
name_quick tw10887116778572429059 for PySem.Manifest.find? by Mine.find_same
name_quick tw15980859228951719591 for PySem.Manifest.find? by Mine.find_same
name_quick tw2478078296215019888 for PySem.Manifest.find? by Mine.find_same
name_quick tw1402947280878808549 for PySem.Manifest.find? by Mine.find_same
name_quick tw3976722010076183465 for PySem.Manifest.find? by Mine.find_same
name_quick tw17988542015724977305 for PySem.Manifest.find? by Mine.find_same
name_quick tw9763268239775435451 for PySem.Manifest.find? by Mine.find_same
name_quick tw14168537005229113720 for PySem.Manifest.find? by Mine.find_same
name_quick tw8753696776887207221 for PySem.Manifest.find? by Mine.find_same
name_quick tw932993149863042379 for PySem.Manifest.find? by Mine.find_same
name_quick tw13678640442995254988 for PySem.Manifest.find? by Mine.find_same
name_quick tw1702518465993881591 for PySem.Manifest.find? by Mine.find_same
name_quick tw15066959818950650227 for PySem.Manifest.find? by Mine.find_same
name_quick tw4090926877573551719 for PySem.Manifest.find? by Mine.find_same
name_quick tw16018607276475445134 for PySem.Manifest.find? by Mine.find_same
name_quick tw3152983702415266003 for PySem.Manifest.find? by Mine.find_same
name_quick tw2862820112641550484 for PySem.Manifest.find? by Mine.find_same
name_quick tw7269565832213808900 for PySem.Manifest.find? by Mine.find_same
name_quick tw12945451867199242903 for PySem.Manifest.find? by Mine.find_same
name_quick tw9697512110049397445 for PySem.Manifest.find? by Mine.find_same
name_quick tw1333364371103165705 for PySem.Manifest.find? by Mine.find_same
name_quick tw8603108125212654177 for PySem.Manifest.find? by Mine.find_same
name_quick tw1218959903707654005 for PySem.Manifest.find? by Mine.find_same
name_quick tw10205541121877940668 for PySem.Manifest.find? by Mine.find_same
name_quick tw16916688483869632129 for PySem.Manifest.find? by Mine.find_same
name_quick tw10833955939284561965 for PySem.Manifest.find? by Mine.find_same
name_quick tw17532718790514356516 for PySem.Manifest.find? by Mine.find_same
name_quick tw9948023125614773506 for PySem.Manifest.find? by Mine.find_same
name_quick tw1414301608579184545 for PySem.Manifest.find? by Mine.find_same
name_quick tw5706481520468235054 for PySem.Manifest.find? by Mine.find_same
name_quick tw8595292554425487202 for PySem.Manifest.find? by Mine.find_same
name_quick tw3131671291697673992 for PySem.Manifest.find? by Mine.find_same
name_quick tw15112985482279097393 for PySem.Manifest.find? by Mine.find_same
name_quick tw18340240734955500558 for PySem.Manifest.find? by Mine.find_same
name_quick tw4558998842232669794 for PySem.Manifest.find? by Mine.find_same
name_quick tw4552823106982906706 for PySem.Manifest.find? by Mine.find_same
name_quick tw2039238271031011813 for PySem.Manifest.find? by Mine.find_same
name_quick tw4679858250743294509 for PySem.Manifest.find? by Mine.find_same
name_quick tw13145125596335152023 for PySem.Manifest.find? by Mine.find_same
name_quick tw505943868828395459 for PySem.Manifest.find? by Mine.find_same
name_quick tw1092655722715705105 for PySem.Manifest.find? by Mine.find_same
name_quick tw11317593695737139937 for PySem.Manifest.find? by Mine.find_same
name_quick tw470574548607681690 for PySem.Manifest.find? by Mine.find_same
name_quick tw2408619945344806742 for PySem.Manifest.find? by Mine.find_same
name_quick tw13900631225919944168 for PySem.Manifest.find? by Mine.find_same
name_quick tw8376441433122354887 for PySem.Manifest.find? by Mine.find_same
name_quick tw11729385059970357855 for PySem.Manifest.find? by Mine.find_same
name_quick tw13981391230805400906 for PySem.Manifest.find? by Mine.find_same
name_quick tw6245536207120538393 for PySem.Manifest.find? by Mine.find_same
name_quick tw18211773271919218964 for PySem.Manifest.find? by Mine.find_same
name_quick tw15742981410569661332 for PySem.Manifest.find? by Mine.find_same
name_quick tw5902227825499142635 for PySem.Manifest.find? by Mine.find_same
name_quick tw10424941004445345732 for PySem.Manifest.find? by Mine.find_same
name_quick tw13512673800721320934 for PySem.Manifest.find? by Mine.find_same
set_option maxRecDepth 100000 in
set_option maxHeartbeats 8000000 in
open_top hd for PySem.Challenge.rw_xm0088_01
end Mine
end
section
namespace Mine
noncomputable def ztrimP (xs : List Int) : List Int := (xs.reverse.dropWhile (fun x => decide (x = 0))).reverse
theorem ztrimP_snoc0 (xs : List Int) : ztrimP (xs ++ [0]) = ztrimP xs := by simp [ztrimP]
theorem ztrimP_snoc {xs : List Int} {x : Int} (h : x ≠ 0) : ztrimP (xs ++ [x]) = xs ++ [x] := by simp [ztrimP, h]
theorem take_pred {xs : List Int} {s : Int} (h0 : 0 < s) (h1 : s ≤ (xs.length : Int)) : xs.take s.toNat = xs.take (s - 1).toNat ++ [xs.getD (s - 1).toNat 0] := by
  obtain ⟨k, hk⟩ : ∃ k : Nat, s = (k : Int) + 1 := ⟨(s - 1).toNat, by omega⟩
  subst hk
  have e1 : ((k : Int) + 1).toNat = k + 1 := by omega
  have e2 : ((k : Int) + 1 - 1).toNat = k := by omega
  have h : k < xs.length := by omega
  rw [e1, e2, List.take_add_one]
  simp [List.getD, h]
theorem ztrim_step {xs : List Int} {s : Int} (_ : 0 ≤ s) (h1 : s ≤ (xs.length : Int)) (h : ztrimP (xs.take s.toNat) = ztrimP xs) (hp : 0 < s) (hz : xs.getD (s - 1).toNat 0 = 0) :
    0 ≤ s - 1 ∧ s - 1 ≤ (xs.length : Int) ∧ ztrimP (xs.take (s - 1).toNat) = ztrimP xs := by
  refine ⟨by omega, by omega, ?_⟩
  rw [take_pred hp h1, hz, ztrimP_snoc0] at h
  exact h
theorem ztrim_end1 {xs : List Int} {s : Int} (h : ztrimP (xs.take s.toNat) = ztrimP xs) (hp : ¬ 0 < s) : xs.take s.toNat = ztrimP xs := by
  have e : s.toNat = 0 := by omega
  rw [e] at h ⊢
  rw [← h]; rfl
theorem ztrim_end2 {xs : List Int} {s : Int} (h1 : s ≤ (xs.length : Int)) (h : ztrimP (xs.take s.toNat) = ztrimP xs) (hp : 0 < s) (hz : xs.getD (s - 1).toNat 0 ≠ 0) : xs.take s.toNat = ztrimP xs := by
  rw [take_pred hp h1, ztrimP_snoc hz] at h
  rw [take_pred hp h1]; exact h
theorem ztrim_start (xs : List Int) : (0 : Int) ≤ (xs.length : Int) ∧ (xs.length : Int) ≤ (xs.length : Int) ∧ ztrimP (xs.take (xs.length : Int).toNat) = ztrimP xs := by
  refine ⟨by omega, by omega, ?_⟩
  simp
end Mine
namespace Mine
/-- x has at most k bits -/
noncomputable def Bd (k : Nat) (x : Int) : Prop := x.natAbs < 2 ^ k
/-- small enough for a product -/
noncomputable def Sm (x : Int) : Prop := Bd 100000 x
/-- a divisor that stays clear of the long division -/
noncomputable def DivOk (x : Int) : Prop := x ≠ 0 ∧ Bd 8000 x
theorem Bd.mono {j k : Nat} {x : Int} (h : Bd j x) (hk : j ≤ k) : Bd k x := Nat.lt_of_lt_of_le h (Nat.pow_le_pow_right (by decide) hk)
theorem Bd.mul {j k : Nat} {x y : Int} (hx : Bd j x) (hy : Bd k y) : Bd (j + k) (x * y) := by
  unfold Bd at *
  rw [Int.natAbs_mul, Nat.pow_add]
  exact Nat.mul_lt_mul'' hx hy
theorem Bd.add {j : Nat} {x y : Int} (hx : Bd j x) (hy : Bd j y) : Bd (j + 1) (x + y) := by
  unfold Bd at *
  have := Int.natAbs_add_le x y
  rw [Nat.pow_succ]; omega
theorem Bd.sub {j : Nat} {x y : Int} (hx : Bd j x) (hy : Bd j y) : Bd (j + 1) (x - y) := by
  unfold Bd at *
  have := Int.natAbs_sub_le x y
  rw [Nat.pow_succ]; omega
theorem Bd.neg {j : Nat} {x : Int} (hx : Bd j x) : Bd j (-x) := by
  unfold Bd at *
  rw [Int.natAbs_neg]; exact hx
theorem Bd.zero {j : Nat} : Bd j 0 := by
  unfold Bd
  exact Nat.pow_pos (by decide)
theorem Bd.sm {k : Nat} {x : Int} (h : Bd k x) (hk : k ≤ 100000) : Sm x := h.mono hk
end Mine
namespace Mine
theorem getD_out {xs : List Int} {k : Int} (h : ¬ k < (xs.length : Int)) : xs.getD k.toNat 0 = 0 := by
  have : xs.length ≤ k.toNat := by omega
  simp [List.getD, this]
theorem zadd_el1 {xs ys : List Int} {k : Int} (h : ¬ k < (ys.length : Int)) : xs.getD k.toNat 0 + ys.getD k.toNat 0 = xs.getD k.toNat 0 + 0 := by rw [getD_out h]
theorem zadd_el2 {xs ys : List Int} {k : Int} (h : ¬ k < (xs.length : Int)) : xs.getD k.toNat 0 + ys.getD k.toNat 0 = 0 + ys.getD k.toNat 0 := by rw [getD_out h]
end Mine
namespace Mine
theorem max_if (a b : Nat) : ((if (b : Int) > (a : Int) then (b : Int) else (a : Int)) - 0).toNat = max a b := by
  split <;> omega
end Mine
end
section
open PySem PySem.W PyProof.Rows
namespace Mine
/-- what a call of the def at f gives back: R of the value and of the ledger behind it -/
noncomputable def Con (w : World) (mean : ExcName → Option Value) (mg mb : Str → Option Value) (N : Nat) (f : Addr) (news : List (Addr × Obj)) (vs : List Value) (R : Value → List (Addr × Obj) → Prop) : Prop :=
  ∀ (dp un : Nat) (gd : Option (List Code)) (cn : Str) (cs : Scope) (a : Addr) (ccd : Value) (cl : List (Str × Addr)) (outer : List Env) (A₀ : Around) (base h₀ : Heap) (L : Addr) (m : Str → Option Value) (s : Shared) (Q E : Value → Shared → Prop),
    Below A₀ base outer h₀ → Fr h₀ L s.heap m → (hd.heap_39 w.params).In h₀ → News h₀ L s.heap news → Top hd.view_39 (looseW hd.view_39 []) mean mg mb h₀ → cs.kind = .function → dp + N < recursionLimit → un + 8 * N < cLine →
    (∀ r news' h' tk', R r news' → Fr h₀ L h' m → News h₀ L h' news' → Q r { s with heap := h', toks := tk' }) →
    wpAny (model Challenge.rw_xm0088_01.row.prog w) (ktrTop dp un gd cn cs L a ccd cl outer) (call (.ref f) vs) Q E s
/-- an int comes back, nothing else is turned -/
noncomputable def ConI (w : World) (mean : ExcName → Option Value) (mg mb : Str → Option Value) (N : Nat) (f : Addr) (news : List (Addr × Obj)) (vs : List Value) (v : Int) : Prop :=
  Con w mean mg mb N f news vs (fun r nw => nw = news ∧ ∃ t, r = .int v t)
/-- None comes back, nothing else is turned -/
noncomputable def ConN (w : World) (mean : ExcName → Option Value) (mg mb : Str → Option Value) (N : Nat) (f : Addr) (news : List (Addr × Obj)) (vs : List Value) : Prop :=
  Con w mean mg mb N f news vs (fun r nw => r = .none ∧ nw = news)
/-- a new list of ints comes back, nothing else is turned -/
noncomputable def ConL (w : World) (mean : ExcName → Option Value) (mg mb : Str → Option Value) (N : Nat) (f : Addr) (news : List (Addr × Obj)) (vs : List Value) (xs : List Int) : Prop :=
  Con w mean mg mb N f news vs (fun r nw => ∃ l its n, r = .ref l ∧ nw = (l, listOf its.toArray n) :: news ∧ IntsAre its xs ∧ ∀ p ∈ news, p.1 ≠ l)
section
variable {w : World} {mean : ExcName → Option Value} {mg mb : Str → Option Value} {N : Nat} {f : Addr} {news : List (Addr × Obj)} {vs : List Value} {R : Value → List (Addr × Obj) → Prop}
  {dp un : Nat} {gd : Option (List Code)} {cn : Str} {cs : Scope} {a : Addr} {ccd : Value} {cl : List (Str × Addr)} {outer : List Env} {A₀ : Around} {base h₀ : Heap} {L : Addr} {m : Str → Option Value} {s : Shared} {Q E : Value → Shared → Prop}
theorem con_use (B : Below A₀ base outer h₀) (F : Fr h₀ L s.heap m) (X : (hd.heap_39 w.params).In h₀) (NN : News h₀ L s.heap news) (T : Top hd.view_39 (looseW hd.view_39 []) mean mg mb h₀) (hk : cs.kind = .function)
    (c : Con w mean mg mb N f news vs R) (hd : dp + N < recursionLimit) (hu : un + 8 * N < cLine)
    (ret : ∀ r news' h' tk', R r news' → Fr h₀ L h' m → News h₀ L h' news' → Q r { s with heap := h', toks := tk' }) :
    wpAny (model Challenge.rw_xm0088_01.row.prog w) (ktrTop dp un gd cn cs L a ccd cl outer) (call (.ref f) vs) Q E s :=
  c _ _ _ _ _ _ _ _ _ _ _ _ _ _ _ _ _ B F X NN T hk hd hu ret
theorem con_useI {v : Int} (B : Below A₀ base outer h₀) (F : Fr h₀ L s.heap m) (X : (hd.heap_39 w.params).In h₀) (NN : News h₀ L s.heap news) (T : Top hd.view_39 (looseW hd.view_39 []) mean mg mb h₀) (hk : cs.kind = .function)
    (c : ConI w mean mg mb N f news vs v) (hd : dp + N < recursionLimit) (hu : un + 8 * N < cLine)
    (ret : ∀ t h' tk', Fr h₀ L h' m → News h₀ L h' news → Q (.int v t) { s with heap := h', toks := tk' }) :
    wpAny (model Challenge.rw_xm0088_01.row.prog w) (ktrTop dp un gd cn cs L a ccd cl outer) (call (.ref f) vs) Q E s :=
  con_use B F X NN T hk c hd hu (fun r nw h' tk' hR F' N' => by obtain ⟨rfl, t, rfl⟩ := hR; exact ret t h' tk' F' N')
theorem con_useN (B : Below A₀ base outer h₀) (F : Fr h₀ L s.heap m) (X : (hd.heap_39 w.params).In h₀) (NN : News h₀ L s.heap news) (T : Top hd.view_39 (looseW hd.view_39 []) mean mg mb h₀) (hk : cs.kind = .function)
    (c : ConN w mean mg mb N f news vs) (hd : dp + N < recursionLimit) (hu : un + 8 * N < cLine)
    (ret : ∀ h' tk', Fr h₀ L h' m → News h₀ L h' news → Q .none { s with heap := h', toks := tk' }) :
    wpAny (model Challenge.rw_xm0088_01.row.prog w) (ktrTop dp un gd cn cs L a ccd cl outer) (call (.ref f) vs) Q E s :=
  con_use B F X NN T hk c hd hu (fun r nw h' tk' hR F' N' => by obtain ⟨rfl, rfl⟩ := hR; exact ret h' tk' F' N')
theorem con_useL {xs : List Int} (B : Below A₀ base outer h₀) (F : Fr h₀ L s.heap m) (X : (hd.heap_39 w.params).In h₀) (NN : News h₀ L s.heap news) (T : Top hd.view_39 (looseW hd.view_39 []) mean mg mb h₀) (hk : cs.kind = .function)
    (c : ConL w mean mg mb N f news vs xs) (hd : dp + N < recursionLimit) (hu : un + 8 * N < cLine)
    (ret : ∀ l its n h' tk', IntsAre its xs → Fr h₀ L h' m → News h₀ L h' ((l, listOf its.toArray n) :: news) → (∀ p ∈ news, p.1 ≠ l) → Q (.ref l) { s with heap := h', toks := tk' }) :
    wpAny (model Challenge.rw_xm0088_01.row.prog w) (ktrTop dp un gd cn cs L a ccd cl outer) (call (.ref f) vs) Q E s :=
  con_use B F X NN T hk c hd hu (fun r nw h' tk' hR F' N' => by obtain ⟨l, its, n, rfl, rfl, hi, hl⟩ := hR; exact ret l its n h' tk' hi F' N' hl)
theorem end_I {v x : Int} {t : Tok} {h' : Heap} {tk' : Nat} {nw : List (Addr × Obj)}
    (hret : ∀ r news' h' tk', (fun r nw => nw = news ∧ ∃ t, r = Value.int v t) r news' → Fr h₀ L h' m → News h₀ L h' news' → Q r { s with heap := h', toks := tk' })
    (e : x = v) (F : Fr h₀ L h' m) (NN : News h₀ L h' nw) (hs : ∀ p ∈ news, p ∈ nw) : Q (.int x t) { s with heap := h', toks := tk' } :=
  hret _ _ _ _ ⟨rfl, t, by rw [e]⟩ F fun p hp => NN p (hs p hp)
theorem end_N {h' : Heap} {tk' : Nat} {nw : List (Addr × Obj)}
    (hret : ∀ r news' h' tk', (fun r nw => r = Value.none ∧ nw = news) r news' → Fr h₀ L h' m → News h₀ L h' news' → Q r { s with heap := h', toks := tk' })
    (F : Fr h₀ L h' m) (NN : News h₀ L h' nw) (hs : ∀ p ∈ news, p ∈ nw) : Q .none { s with heap := h', toks := tk' } :=
  hret _ _ _ _ ⟨rfl, rfl⟩ F fun p hp => NN p (hs p hp)
theorem end_L {xs : List Int} {l : Addr} {its : List Value} {n : Nat} {h' : Heap} {tk' : Nat} {nw : List (Addr × Obj)}
    (hret : ∀ r news' h' tk', (fun r nw => ∃ l its n, r = Value.ref l ∧ nw = (l, listOf its.toArray n) :: news ∧ IntsAre its xs ∧ ∀ p ∈ news, p.1 ≠ l) r news' → Fr h₀ L h' m → News h₀ L h' news' → Q r { s with heap := h', toks := tk' })
    (hi : IntsAre its xs) (F : Fr h₀ L h' m) (NN : News h₀ L h' nw) (hm : (l, listOf its.toArray n) ∈ nw) (hl : ∀ p ∈ news, p.1 ≠ l) (hs : ∀ p ∈ news, p ∈ nw) : Q (.ref l) { s with heap := h', toks := tk' } :=
  hret _ _ _ _ ⟨l, its, n, rfl, rfl, hi, hl⟩ F fun p hp => by
    rcases List.mem_cons.mp hp with rfl | hp
    · exact NN _ hm
    · exact NN p (hs p hp)
end
theorem news_cons {h₀ h : Heap} {L : Addr} {news : List (Addr × Obj)} {q : Addr × Obj} (N : News h₀ L h news) (hm : q ∈ news) : News h₀ L h (q :: news) := fun p hp => by
  rcases List.mem_cons.mp hp with rfl | hp
  · exact N _ hm
  · exact N p hp
theorem off1_of {D : Addr} : ∀ {l : List (Addr × Obj)}, (∀ p ∈ l, p.1 ≠ D) → LCg.Off1 D l
  | [], _ => trivial
  | _ :: _, h => ⟨h _ List.mem_cons_self, off1_of fun p hp => h p (List.mem_cons_of_mem _ hp)⟩
theorem off1_ne {D : Addr} : ∀ {l : List (Addr × Obj)}, LCg.Off1 D l → ∀ p ∈ l, p.1 ≠ D
  | [], _, _, h => nomatch h
  | _ :: _, x, p, h => by
    rcases List.mem_cons.mp h with rfl | h
    · exact x.1
    · exact off1_ne x.2 p h
theorem lt_ne {D : Addr} {l : List (Addr × Obj)} (h : AllLt D l) : ∀ p ∈ l, p.1 ≠ D := fun p hp => Nat.ne_of_lt (ktn_ltOf h p hp)
theorem mulOk_of {x y : Int} (hx : Sm x) (hy : Sm y) : IntMulOk x y :=
  IntMulOk.of_bits (Nat.le_trans (PyProof.Rows.intBits_le hx) (by decide)) (Nat.le_trans (PyProof.Rows.intBits_le hy) (by decide))
theorem powSz {x n : Int} (h : Sm x) (h0 : 0 ≤ n) (h1 : n ≤ 1000) : (Builtin.Int.intBits x : Int) * n ≤ 2 ^ 27 := by
  have hb : Builtin.Int.intBits x ≤ 100000 := PyProof.Rows.intBits_le h
  have h2 : (Builtin.Int.intBits x : Int) * n ≤ 100000 * n := Int.mul_le_mul_of_nonneg_right (by omega) h0
  omega
theorem DivOk.ne {x : Int} (h : DivOk x) : x ≠ 0 := h.1
theorem DivOk.pylong {x y : Int} (h : DivOk y) : Builtin.divisionGoesByPylong x y = false := by
  refine PyProof.noPylong_of_log2 ?_
  by_cases h0 : y.natAbs = 0
  · rw [h0]; decide +kernel
  · have h30 : y.natAbs.log2 < 8000 := (Nat.log2_lt h0).mpr h.2
    omega
theorem cell_ne1 {L : Addr} {l : List (Addr × Obj)} (h : ∀ p ∈ l, p.1 < L) : LCg.Off1 (L + 1) l := off1_of fun p hp => Nat.ne_of_lt (Nat.lt_succ_of_lt (h p hp))
theorem cell_ne2 {L : Addr} {l : List (Addr × Obj)} (h : ∀ p ∈ l, p.1 < L) : LCg.Off1 (L + 1 + 1) l := off1_of fun p hp => Nat.ne_of_lt (Nat.lt_succ_of_lt (Nat.lt_succ_of_lt (h p hp)))
theorem cell_ne3 {L : Addr} {l : List (Addr × Obj)} (h : ∀ p ∈ l, p.1 < L) : LCg.Off1 (L + 1 + 1 + 1) l := off1_of fun p hp => Nat.ne_of_lt (Nat.lt_succ_of_lt (Nat.lt_succ_of_lt (Nat.lt_succ_of_lt (h p hp))))
theorem ints_cast {its : List Value} {xs ys : List Int} (e : xs = ys) (h : IntsAre its xs) : IntsAre its ys := e ▸ h
noncomputable def Stop (P : Prop) : Prop := P
theorem stop_here {P : Prop} (h : Stop P) : P := h
end Mine
end
section
open PySem PySem.W PyProof.Rows
namespace Mine
section
variable {prog : Program} {w : World} {A : Around} {E : Value → Shared → Prop} {s : Shared} {env : Env} {h₀ : Heap} {xi xc : Str} {body : List Stmt} {Q : Flow → Shared → Prop}
/-- for i, x in enumerate(l), l a list of ints of the ledger, the body turns the ledger's other objects -/
theorem iter_enumL {l : Addr} {vs : List Value} {ns : List Int} {nn : Nat} {m₀ : Str → Option Value} {news : List (Addr × Obj)} (J : Nat → (Str → Option Value) → List (Addr × Obj) → Prop)
    (hh : A.handled = none) (hl : (l, listOf vs.toArray nn) ∈ news) (hi : IntsAre vs ns) (F : Fr h₀ env.locals s.heap m₀) (N : News h₀ env.locals s.heap news) (hj : J 0 m₀ news)
    (turn : ∀ i n t tv m₁ news₁ h tk own, ns[i]? = some n → news₁.map (·.1) = news.map (·.1) → OwnOff own (news.map (·.1)) → (l, listOf vs.toArray nn) ∈ news₁ → J i m₁ news₁ →
      Fr h₀ env.locals h (fun y => if y = xc then some (.int n tv) else if y = xi then some (.int i t) else m₁ y) → News h₀ env.locals h (news₁ ++ own) →
      wpAny (model prog w) A (execs body env) (InvPostN h₀ env.locals (fun m' nx => (l, listOf vs.toArray nn) ∈ nx ∧ J (i + 1) m' nx) own (news.map (·.1)) { s with heap := h, toks := tk } Q) E { s with heap := h, toks := tk })
    (done : ∀ m₁ news₁ h tk, (l, listOf vs.toArray nn) ∈ news₁ → J ns.length m₁ news₁ → Fr h₀ env.locals h m₁ → News h₀ env.locals h news₁ → Q .next { s with heap := h, toks := tk }) :
    wpAny (model prog w) A (call (.type "enumerate") [.ref l]) (fun xv s₁ => wpAny (model prog w) A (pyIter xv) (fun it s₂ => PairAt3 prog w A h₀ env xi xc body Q E it s₂) E s₁) E s := by
  have hol : s.heap.get? l = some (listOf vs.toArray nn) := (N _ hl).1
  have hls : s.heap.IsList l vs.toArray := ⟨_, hol, rfl, nn, rfl⟩
  have hlt : l < s.heap.objs.size := Heap.lt_size hol
  have hLs : env.locals < s.heap.objs.size := F.ns.lt
  have hab : h₀.objs.size ≤ env.locals := F.above
  have hlen : vs.toArray.size = ns.length := by simp [hi.length]
  refine call_enumerate_list hls fun h' he hit hsz hk => ?_
  have F' : Fr h₀ env.locals h' m₀ := ⟨F.ns.keeps hk, fun b o e => hk b o (F.keep b o e), F.above⟩
  have N' : News h₀ env.locals h' news := fun p hp => ⟨hk _ _ (N p hp).1, (N p hp).2⟩
  refine wpAny_pyIter_enum he ?_
  have D := Draws.list (prog := prog) (w := w) (A := A.in1) hh s.heap.objs.size l (Nat.ne_of_lt hlt) vs.toArray
  have hef : s.heap.objs.size + 1 ∉ [s.heap.objs.size, l] := fun hm => by
    rcases List.mem_cons.mp hm with e | hm
    · exact Nat.succ_ne_self _ e
    · exact Nat.ne_of_gt (Nat.lt_succ_of_lt hlt) (List.mem_singleton.mp hm)
  have fresh : ∀ b ∈ [s.heap.objs.size + 1, s.heap.objs.size], s.heap.objs.size ≤ b := fun b hb => by
    rcases List.mem_cons.mp hb with rfl | hb
    · exact Nat.le_succ _
    · rw [List.mem_singleton.mp hb]; exact Nat.le_refl _
  have apart : ∀ q ∈ news, ∀ b ∈ [s.heap.objs.size + 1, s.heap.objs.size], b ≠ q.1 := fun q hq b hb => Nat.ne_of_gt (Nat.lt_of_lt_of_le (Heap.lt_size (N q hq).1) (fresh b hb))
  rw [hlen] at D
  refine ⟨s.heap.objs.size + 1, (s.heap.objs.size + 1) :: [s.heap.objs.size, l], [s.heap.objs.size + 1, s.heap.objs.size], ns.length, _, _, _, (fun i v0 v1 => ∃ t, v0 = .int i t ∧ vs.toArray[i]? = some v1), m₀, news,
    (fun i m nx => (l, listOf vs.toArray nn) ∈ nx ∧ J i m nx), rfl, WalksT.enumerateD D (s.heap.objs.size + 1) (Nat.succ_ne_self _) hef (by simp), ?_, ?_, ?_, ?_, ⟨⟨_, by simpa using he⟩, ⟨hit, hls.at fun o e => hk l o e⟩⟩, F', N', ⟨hl, hj⟩, ?_, ?_⟩
  · rintro i vals ⟨t, x, hPx, rfl⟩
    exact ⟨_, _, rfl, t, rfl, hPx⟩
  · intro hm
    rcases List.mem_cons.mp hm with e | hm
    · exact Nat.ne_of_lt (Nat.lt_succ_of_lt hLs) e
    · rcases List.mem_cons.mp hm with e | hm
      · exact Nat.ne_of_lt hLs e
      · exact (N _ hl).2.1 (List.mem_singleton.mp hm).symm
  · intro b hb
    exact Heap.get?_none_of_le (Nat.le_trans (Nat.le_trans hab (Nat.le_of_lt hLs)) (fresh b hb))
  · intro p hp hb
    exact apart p hp _ hb rfl
  · rintro i v0 v1 m₁ news₁ s₁ own ⟨hh₁, tk₁, rfl⟩ hin ⟨t, rfl, hv⟩ ⟨hl₁, hJ⟩ ha hsub F₁ N₁
    obtain ⟨tv, hx⟩ := hi.get i ns[i] (by simp [hin])
    have hv1 : v1 = .int ns[i] tv := by
      have hv' : vs[i]? = some v1 := by simpa using hv
      rw [hx] at hv'; exact (Option.some.inj hv').symm
    subst hv1
    have hsep : OwnOff (own.filter fun p => decide (p.1 ≠ l)) (news.map (·.1)) := by
      intro p hp b hb e
      obtain ⟨q, hq, rfl⟩ := List.mem_map.mp hb
      have h1 : p.1 ≠ l := by simpa using (List.mem_filter.mp hp).2
      have h2 := hsub p (List.mem_filter.mp hp).1
      refine apart q hq p.1 ?_ e
      rcases List.mem_cons.mp h2 with h3 | h3
      · rw [h3]; simp
      · rcases List.mem_cons.mp h3 with h4 | h4
        · rw [h4]; simp
        · exact absurd (List.mem_singleton.mp h4) h1
    have N₂ : News h₀ env.locals hh₁ (news₁ ++ own.filter fun p => decide (p.1 ≠ l)) := fun p hp => N₁ p ((List.mem_append.mp hp).elim (fun h => List.mem_append.mpr (.inr h)) fun h => List.mem_append.mpr (.inl ((List.mem_filter.mp h).1)))
    have hlo : hh₁.get? l = some (listOf vs.toArray nn) := (N₁ _ (List.mem_append.mpr (.inr hl₁))).1
    refine wpAny_mono (turn i ns[i] t tv m₁ news₁ hh₁ tk₁ _ (by simp [hin]) ha hsep hl₁ hJ F₁ N₂) (fun f s₂ p => ?_) fun _ _ e => e
    have fin : InvEndN h₀ env.locals (fun m' nx => (l, listOf vs.toArray nn) ∈ nx ∧ J (i + 1) m' nx) (own.filter fun p => decide (p.1 ≠ l)) (news.map (·.1)) { s with heap := hh₁, toks := tk₁ } s₂ →
        LoopStep2 h₀ env.locals own news₁ (fun m nx => (l, listOf vs.toArray nn) ∈ nx ∧ J (i + 1) m nx) { s with heap := hh₁, toks := tk₁ } .next s₂ := by
      rintro ⟨h', tk, m', news', nx, e, F', N', hn, ho, ha', hm⟩
      refine ⟨rfl, h', tk, m', nx, e, F', fun p hp => ?_, ha'.trans ha.symm, hm⟩
      rcases List.mem_append.mp hp with h | h
      · by_cases hI : p.1 = l
        · have h2 : hh₁.get? p.1 = some p.2 := (N₁ p (List.mem_append.mpr (.inl h))).1
          rw [hI, hlo] at h2
          have h3 : p = (l, listOf vs.toArray nn) := Prod.ext hI (Option.some.inj h2).symm
          rw [h3]
          exact N' _ (hn _ hm.1)
        · exact N' p (ho p (List.mem_filter.mpr ⟨h, by simpa using hI⟩))
      · exact N' p (hn p h)
    cases f with
    | ret v => exact p
    | brk => exact p
    | next => exact fin p
    | cont => exact fin p
  · rintro h' tk m' news' F' N' _ ⟨hl', hJ⟩
    exact done m' news' h' tk hl' hJ F' N'
theorem kst_enumL {σ : Type} {l : Addr} {vs : List Value} {ns : List Int} {nn : Nat} {m₀ : Str → Option Value} (Led : σ → List (Addr × Obj)) (ps : σ → List (Str × Value)) (Facts : σ → Prop) (stored : List Str) (P : List Int → σ → Prop) (c₀ : σ)
    (hh : A.handled = none) (hl : ∀ c : σ, (l, listOf vs.toArray nn) ∈ Led c) (hi : IntsAre vs ns) (F : Fr h₀ env.locals s.heap m₀) (N : News h₀ env.locals s.heap (Led c₀)) (hf : Facts c₀) (hk : ∀ p ∈ ps c₀, m₀ p.1 = some p.2) (hp : P [] c₀)
    (turn : ∀ (c : σ) pre post n t tv (u : Str → Option Value) h tk own, ns = pre ++ n :: post → n ∈ ns → OwnOff own ((Led c₀).map (·.1)) → Facts c → P pre c →
      Fr h₀ env.locals h (fun y => if y = xc then some (.int n tv) else if y = xi then some (.int (pre.length : Int) t) else kstB (fun z => if stored.contains z then u z else m₀ z) (ps c) y) → News h₀ env.locals h (Led c ++ own) →
      wpAny (model prog w) A (execs body env) (InvPostN h₀ env.locals (KstS Led ps Facts xc stored m₀ P (pre ++ [n])) own ((Led c₀).map (·.1)) { s with heap := h, toks := tk } Q) E { s with heap := h, toks := tk })
    (done : ∀ (c : σ) (u : Str → Option Value) h tk, Facts c → P ns c → Fr h₀ env.locals h (fun y => if y = xc then u y else kstB (fun z => if stored.contains z then u z else m₀ z) (ps c) y) → News h₀ env.locals h (Led c) → Q .next { s with heap := h, toks := tk }) :
    wpAny (model prog w) A (call (.type "enumerate") [.ref l]) (fun xv s₁ => wpAny (model prog w) A (pyIter xv) (fun it s₂ => PairAt3 prog w A h₀ env xi xc body Q E it s₂) E s₁) E s := by
  refine iter_enumL (fun i m nx => KstS Led ps Facts xc stored m₀ P (ns.take i) m nx) hh (hl c₀) hi F N ⟨c₀, rfl, hf, hk, fun _ _ _ _ => rfl, by simpa using hp⟩ ?_ ?_
  · rintro i n t tv m₁ nx h tk own hn _ hoff _ ⟨c, rfl, hf', h1, h2, hp'⟩ F₁ N₁
    have hs : ns.take (i + 1) = ns.take i ++ [n] := by simp [List.take_add_one, hn]
    have e : ns = ns.take i ++ n :: ns.drop (i + 1) := by
      have ht := List.take_append_drop (i + 1) ns
      rw [hs, List.append_assoc] at ht
      exact ht.symm
    have hil : i < ns.length := (List.getElem?_eq_some_iff.mp hn).1
    have hlen : (ns.take i).length = i := by rw [List.length_take]; omega
    rw [hs]
    have F₂ : Fr h₀ env.locals h (fun y => if y = xc then some (.int n tv) else if y = xi then some (.int ((ns.take i).length : Int) t) else kstB (fun z => if stored.contains z then m₁ z else m₀ z) (ps c) y) := by
      have em : (fun y => if y = xc then some (Value.int n tv) else if y = xi then some (.int ((ns.take i).length : Int) t) else kstB (fun z => if stored.contains z then m₁ z else m₀ z) (ps c) y)
          = fun y => if y = xc then some (.int n tv) else if y = xi then some (.int i t) else m₁ y := by
        funext y
        rw [hlen]
        by_cases hy : y = xc
        · rw [if_pos hy, if_pos hy]
        · rw [if_neg hy, if_neg hy]
          by_cases hy2 : y = xi
          · rw [if_pos hy2, if_pos hy2]
          · rw [if_neg hy2, if_neg hy2]
            exact kst_off h1 h2 hy
      rw [em]
      exact F₁
    refine wpAny_mono (turn c _ _ n t tv m₁ h tk own e (List.mem_of_getElem? hn) hoff hf' hp' F₂ N₁) (fun f s₂ p => ?_) fun _ _ x => x
    have up : InvEndN h₀ env.locals (KstS Led ps Facts xc stored m₀ P (ns.take i ++ [n])) own ((Led c₀).map (·.1)) { s with heap := h, toks := tk } s₂ →
        InvEndN h₀ env.locals (fun m' nx => (l, listOf vs.toArray nn) ∈ nx ∧ KstS Led ps Facts xc stored m₀ P (ns.take i ++ [n]) m' nx) own ((Led c₀).map (·.1)) { s with heap := h, toks := tk } s₂ := by
      rintro ⟨h', tk', m', news', nx', e', F', N', hn', ho', ha, hS⟩
      refine ⟨h', tk', m', news', nx', e', F', N', hn', ho', ha, ?_, hS⟩
      obtain ⟨c', rfl, _⟩ := hS
      exact hl c'
    cases f with
    | ret v => exact p
    | brk => exact p
    | next => exact up p
    | cont => exact up p
  · rintro m₁ nx h tk _ ⟨c, rfl, hf', h1, h2, hp'⟩ F₁ N₁
    rw [List.take_length] at hp'
    exact done c m₁ h tk hf' hp' (kst_frOut h1 h2 F₁) N₁
/-- the state: one list of ints at D, the rest of the ledger stands -/
noncomputable abbrev Led1 (D : Addr) (rest : List (Addr × Obj)) (c : List Value × List Int × Nat) : List (Addr × Obj) := (D, listOf c.1.toArray c.2.2) :: rest
noncomputable abbrev Ps0 (_ : List Value × List Int × Nat) : List (Str × Value) := []
noncomputable abbrev Fa1 (c : List Value × List Int × Nat) : Prop := IntsAre c.1 c.2.1
theorem enum_upd1 {l D : Addr} {vs its0 : List Value} {ns xs0 : List Int} {nn n0 : Nat} {m₀ : Str → Option Value} {rest : List (Addr × Obj)} (stored : List Str) (P : List Int → List Int → Prop)
    (hh : A.handled = none) (F : Fr h₀ env.locals s.heap m₀) (N : News h₀ env.locals s.heap ((D, listOf its0.toArray n0) :: rest)) (hi0 : IntsAre its0 xs0) (hl : (l, listOf vs.toArray nn) ∈ rest) (hi : IntsAre vs ns) (hp : P [] xs0)
    (turn : ∀ (its : List Value) (xs : List Int) (k : Nat) pre post n t tv (u : Str → Option Value) h tk own, ns = pre ++ n :: post → n ∈ ns → pre.length < ns.length → its.length = xs.length → OwnOff own (((D, listOf its0.toArray n0) :: rest).map (·.1)) → IntsAre its xs → P pre xs →
      Fr h₀ env.locals h (fun y => if y = xc then some (.int n tv) else if y = xi then some (.int (pre.length : Int) t) else (if stored.contains y then u y else m₀ y)) → News h₀ env.locals h (((D, listOf its.toArray k) :: rest) ++ own) →
      wpAny (model prog w) A (execs body env) (InvPostN h₀ env.locals (KstS (Led1 D rest) Ps0 Fa1 xc stored m₀ (fun pre c => P pre c.2.1) (pre ++ [n])) own (((D, listOf its0.toArray n0) :: rest).map (·.1)) { s with heap := h, toks := tk } Q) E { s with heap := h, toks := tk })
    (done : ∀ (its : List Value) (xs : List Int) (k : Nat) (u : Str → Option Value) h tk, IntsAre its xs → P ns xs → Fr h₀ env.locals h (fun y => if y = xc then u y else (if stored.contains y then u y else m₀ y)) → News h₀ env.locals h ((D, listOf its.toArray k) :: rest) → Q .next { s with heap := h, toks := tk }) :
    wpAny (model prog w) A (call (.type "enumerate") [.ref l]) (fun xv s₁ => wpAny (model prog w) A (pyIter xv) (fun it s₂ => PairAt3 prog w A h₀ env xi xc body Q E it s₂) E s₁) E s :=
  kst_enumL (Led1 D rest) Ps0 Fa1 stored (fun pre c => P pre c.2.1) (its0, xs0, n0) hh (fun c => List.mem_cons_of_mem _ hl) hi F N hi0 (fun _ h => nomatch h) hp
    (fun c pre post n t tv u h tk own e hm ho hf hp' F' N' => turn c.1 c.2.1 c.2.2 pre post n t tv u h tk own e hm (by rw [e]; simp) (IntsAre.length hf) ho hf hp' F' N')
    (fun c u h tk hf hp' F' N' => done c.1 c.2.1 c.2.2 u h tk hf hp' F' N')
/-- a while's turn comes back: two lists (rebound to new ones), ints -/
inductive WEnd (h₀ : Heap) (L : Addr) (s : Shared) (rn fn : Str) (vn : List Str) (stored : List Str) (m₀ : Str → Option Value) (rest : List (Addr × Obj)) (P : List Int → List Int → List Int → Prop) (k : Nat) (μ : List Int → List Int → List Int → Nat) (s₂ : Shared) : Prop
  | mk (lr : Addr) (ir : List Value) (xr : List Int) (nr : Nat) (lf : Addr) (jf : List Value) (xf : List Int) (nf : Nat) (vs : List Value) (ks : List Int) (h' : Heap) (tk : Nat) (m' : Str → Option Value) (news' : List (Addr × Obj))
    (c0 : s₂ = { s with heap := h', toks := tk })
    (c1 : Fr h₀ L h' m')
    (c2 : News h₀ L h' news')
    (c3 : (lr, listOf ir.toArray nr) ∈ news')
    (c4 : (lf, listOf jf.toArray nf) ∈ news')
    (c5 : (∀ p ∈ rest, p ∈ news'))
    (c6 : IntsAre ir xr)
    (c7 : IntsAre jf xf)
    (c8 : IntsAre vs ks)
    (c9 : m' rn = some (.ref lr))
    (c10 : m' fn = some (.ref lf))
    (c11 : vs.length = vn.length)
    (c12 : (∀ p ∈ vn.zip vs, m' p.1 = some p.2))
    (c13 : (∀ z, z ≠ rn → z ≠ fn → (∀ n ∈ vn, z ≠ n) → stored.contains z = false → m' z = m₀ z))
    (c14 : P xr xf ks)
    (c15 : μ xr xf ks < k) : WEnd h₀ L s rn fn vn stored m₀ rest P k μ s₂
noncomputable def WPost (h₀ : Heap) (L : Addr) (s : Shared) (rn fn : Str) (vn : List Str) (stored : List Str) (m₀ : Str → Option Value) (rest : List (Addr × Obj)) (P : List Int → List Int → List Int → Prop) (k : Nat) (μ : List Int → List Int → List Int → Nat) (Q : Flow → Shared → Prop) (f : Flow) (s₂ : Shared) : Prop :=
  match f with
  | .ret v => Q (.ret v) s₂
  | .brk => Q .next s₂
  | _ => WEnd h₀ L s rn fn vn stored m₀ rest P k μ s₂
theorem wend_intro {L : Addr} {rn fn : Str} {vn stored : List Str} {m₀ m' : Str → Option Value} {rest news' : List (Addr × Obj)} {P : List Int → List Int → List Int → Prop} {k : Nat} {μ : List Int → List Int → List Int → Nat} {lr lf : Addr} {ir jf vs : List Value} {xr xf ks : List Int} {nr nf : Nat} {h' : Heap} {tk : Nat}
    (F : Fr h₀ L h' m') (N : News h₀ L h' news') (h1 : m' rn = some (.ref lr)) (h2 : m' fn = some (.ref lf)) (h3 : vs.length = vn.length) (h4 : ∀ p ∈ vn.zip vs, m' p.1 = some p.2) (m1 : (lr, listOf ir.toArray nr) ∈ news') (m2 : (lf, listOf jf.toArray nf) ∈ news') (hs : ∀ p ∈ rest, p ∈ news')
    (i1 : IntsAre ir xr) (i2 : IntsAre jf xf) (i3 : IntsAre vs ks) (hz : ∀ z, z ≠ rn → z ≠ fn → (∀ n ∈ vn, z ≠ n) → stored.contains z = false → m' z = m₀ z) (hp : P xr xf ks ∧ μ xr xf ks < k) :
    WEnd h₀ L s rn fn vn stored m₀ rest P k μ { s with heap := h', toks := tk } :=
  ⟨lr, ir, xr, nr, lf, jf, xf, nf, vs, ks, h', tk, m', news', rfl, F, N, m1, m2, hs, i1, i2, i3, h1, h2, h3, h4, hz, hp.1, hp.2⟩
theorem zip_mem_fst {vn : List Str} {vs : List Value} (hl : vs.length = vn.length) {n : Str} (hn : n ∈ vn) : ∃ p ∈ vn.zip vs, p.1 = n := by
  induction vn generalizing vs with
  | nil => cases hn
  | cons a r ih =>
    cases vs with
    | nil => simp at hl
    | cons v vs =>
      rcases List.mem_cons.mp hn with rfl | hn
      · exact ⟨(n, v), List.mem_cons_self, rfl⟩
      · obtain ⟨p, hp, e⟩ := ih (by simpa using hl) hn
        exact ⟨p, List.mem_cons_of_mem _ hp, e⟩
theorem while_2L {L lr lf : Addr} {rn fn : Str} {vn : List Str} {ir jf vs : List Value} {xr xf ks : List Int} {nr nf : Nat} {rest : List (Addr × Obj)} {test : PySem.Expr} {pos : Pos} {m₀ : Str → Option Value} (stored : List Str) (P : List Int → List Int → List Int → Prop) (μ : List Int → List Int → List Int → Nat)
    (F : Fr h₀ L s.heap m₀) (N : News h₀ L s.heap ((lr, listOf ir.toArray nr) :: (lf, listOf jf.toArray nf) :: rest)) (i1 : IntsAre ir xr) (i2 : IntsAre jf xf) (i3 : IntsAre vs ks) (h1 : m₀ rn = some (.ref lr)) (h2 : m₀ fn = some (.ref lf)) (h3 : vs.length = vn.length) (h4 : ∀ p ∈ vn.zip vs, m₀ p.1 = some p.2) (hp : P xr xf ks)
    (turn : ∀ (lr : Addr) (ir : List Value) (xr : List Int) (nr : Nat) (lf : Addr) (jf : List Value) (xf : List Int) (nf : Nat) (vs : List Value) (ks : List Int) (u : Str → Option Value) h tk, IntsAre ir xr → IntsAre jf xf → IntsAre vs ks → vs.length = vn.length → P xr xf ks →
      Fr h₀ L h (kstB (fun z => if stored.contains z then u z else m₀ z) ((rn, .ref lr) :: (fn, .ref lf) :: vn.zip vs)) → News h₀ L h ((lr, listOf ir.toArray nr) :: (lf, listOf jf.toArray nf) :: rest) →
      wpAny (model prog w) A (isTrue test env (eval test env)) (fun b s₂ =>
        if b = true then wpAny (model prog w) A (execs body env) (WPost h₀ L s rn fn vn stored m₀ rest P (μ xr xf ks) μ Q) E s₂ else Q .next s₂) E { s with heap := h, toks := tk })
    (hE : PassesOwn (model prog w) A env E := by passes_own) :
    wpAny (model prog w) A (exec (.While test body [] pos) env) Q E s := by
  refine ksw_while (σ := Addr × List Value × List Int × Nat × Addr × List Value × List Int × Nat × List Value × List Int)
    (fun c => (c.1, listOf c.2.1.toArray c.2.2.2.1) :: (c.2.2.2.2.1, listOf c.2.2.2.2.2.1.toArray c.2.2.2.2.2.2.2.1) :: rest)
    (fun c => (rn, .ref c.1) :: (fn, .ref c.2.2.2.2.1) :: vn.zip c.2.2.2.2.2.2.2.2.1)
    (fun c => IntsAre c.2.1 c.2.2.1 ∧ IntsAre c.2.2.2.2.2.1 c.2.2.2.2.2.2.1 ∧ IntsAre c.2.2.2.2.2.2.2.2.1 c.2.2.2.2.2.2.2.2.2 ∧ c.2.2.2.2.2.2.2.2.1.length = vn.length) stored
    (fun c => P c.2.2.1 c.2.2.2.2.2.2.1 c.2.2.2.2.2.2.2.2.2) (fun c => μ c.2.2.1 c.2.2.2.2.2.2.1 c.2.2.2.2.2.2.2.2.2)
    (lr, ir, xr, nr, lf, jf, xf, nf, vs, ks) F N ⟨i1, i2, i3, h3⟩ ?_ hp ?_ hE
  · intro p hp
    rcases List.mem_cons.mp hp with rfl | hp
    · exact h1
    · rcases List.mem_cons.mp hp with rfl | hp
      · exact h2
      · exact h4 p hp
  · rintro ⟨lr, ir, xr, nr, lf, jf, xf, nf, vs, ks⟩ u h tk ⟨i1, i2, i3, h3⟩ hp F' N'
    refine wpAny_mono (turn lr ir xr nr lf jf xf nf vs ks u h tk i1 i2 i3 h3 hp F' N') (fun b s₂ q => ?_) fun _ _ x => x
    cases b with
    | false => simpa using q
    | true =>
      simp only [if_true] at q ⊢
      refine wpAny_mono q (fun f s₃ z => ?_) fun _ _ x => x
      have up : WEnd h₀ L s rn fn vn stored m₀ rest P (μ xr xf ks) μ s₃ → KswEnd h₀ L s (fun c : Addr × List Value × List Int × Nat × Addr × List Value × List Int × Nat × List Value × List Int => (c.1, listOf c.2.1.toArray c.2.2.2.1) :: (c.2.2.2.2.1, listOf c.2.2.2.2.2.1.toArray c.2.2.2.2.2.2.2.1) :: rest)
          (fun c => (rn, .ref c.1) :: (fn, .ref c.2.2.2.2.1) :: vn.zip c.2.2.2.2.2.2.2.2.1)
          (fun c => IntsAre c.2.1 c.2.2.1 ∧ IntsAre c.2.2.2.2.2.1 c.2.2.2.2.2.2.1 ∧ IntsAre c.2.2.2.2.2.2.2.2.1 c.2.2.2.2.2.2.2.2.2 ∧ c.2.2.2.2.2.2.2.2.1.length = vn.length) stored m₀
          (fun c => P c.2.2.1 c.2.2.2.2.2.2.1 c.2.2.2.2.2.2.2.2.2) (fun c => μ c.2.2.1 c.2.2.2.2.2.2.1 c.2.2.2.2.2.2.2.2.2) (lr, ir, xr, nr, lf, jf, xf, nf, vs, ks) s₃ := by
        rintro ⟨lr', ir', xr', nr', lf', jf', xf', nf', vs', ks', h', tk', m', news', e, F2, N2, m1, m2, hs, i1', i2', i3', e1, e2, e3, e4, hz, hp', hlt⟩
        refine ⟨(lr', ir', xr', nr', lf', jf', xf', nf', vs', ks'), h', tk', m', news', e, F2, N2, ?_, ⟨i1', i2', i3', e3⟩, ?_, ?_, hp', hlt⟩
        · intro p hp
          rcases List.mem_cons.mp hp with rfl | hp
          · exact m1
          · rcases List.mem_cons.mp hp with rfl | hp
            · exact m2
            · exact hs p hp
        · intro p hp
          rcases List.mem_cons.mp hp with rfl | hp
          · exact e1
          · rcases List.mem_cons.mp hp with rfl | hp
            · exact e2
            · exact e4 p hp
        · intro z hz1 hz2
          refine hz z (hz1 _ List.mem_cons_self) (hz1 (fn, .ref lf') (List.mem_cons_of_mem _ List.mem_cons_self)) (fun n hn => ?_) hz2
          obtain ⟨p, hp, e⟩ := zip_mem_fst e3 hn
          exact e ▸ hz1 p (List.mem_cons_of_mem _ (List.mem_cons_of_mem _ hp))
      cases f with
      | ret v => exact z
      | brk => exact z
      | next => exact up z
      | cont => exact up z
end
theorem ints_one {vs : List Value} {ks : List Int} (h : IntsAre vs ks) (hl : vs.length = 1) : ∃ v t, vs = [.int v t] ∧ ks = [v] := by
  cases h with
  | nil => simp at hl
  | cons v t h =>
    cases h with
    | nil => exact ⟨v, t, rfl, rfl⟩
    | cons _ _ _ => simp at hl
theorem ints_three {vs : List Value} {ks : List Int} (h : IntsAre vs ks) (hl : vs.length = 3) : ∃ v t v2 t2 v3 t3, vs = [.int v t, .int v2 t2, .int v3 t3] ∧ ks = [v, v2, v3] := by
  cases h with
  | nil => simp at hl
  | cons v t h =>
    cases h with
    | nil => simp at hl
    | cons v2 t2 h =>
      cases h with
      | nil => simp at hl
      | cons v3 t3 h =>
        cases h with
        | nil => exact ⟨v, t, v2, t2, v3, t3, rfl, rfl⟩
        | cons _ _ _ => simp at hl
end Mine
end
section
open PySem PySem.W PyProof.Rows
namespace Mine
section
variable {prog : Program} {w : World} {A : Around} {E : Value → Shared → Prop} {s : Shared} {h₀ : Heap} {L : Addr} {m : Str → Option Value} {env : Env}
/-- a turn of [elt for i, x in enumerate(l)]: elt is an int, nothing is made -/
noncomputable def ETurn (prog : Program) (w : World) (A : Around) (h₀ : Heap) (L : Addr) (m : Str → Option Value) (env : Env) (elt : PySem.Expr) (x x₂ : Str) (scope : Scope) (cl : List (Str × Addr)) (s : Shared) (ns : List Int) (g : Int → Int → Int) : Prop :=
  ∀ (i : Nat) (n : Int) (t tv : Tok) (C : Addr) (oC : Obj) (m₂ : Str → Option Value) (all : List (Addr × Obj)) (h : Heap) (tk : Nat) (E' : Value → Shared → Prop), ns[i]? = some n → n ∈ ns → i < ns.length → LCg.NsObj oC m₂ → m₂ x = some (.int i t) → m₂ x₂ = some (.int n tv) → Fr h₀ L h m → News h₀ L h ((C, oC) :: all) →
    wpAny (model prog w) A (eval elt (compEnvC scope cl C env)) (fun y s₂ => ∃ h' tk' t', s₂ = { s with heap := h', toks := tk' } ∧ y = .int (g i n) t' ∧ Fr h₀ L h' m ∧ News h₀ L h' ((C, oC) :: all)) E' { s with heap := h, toks := tk }
inductive ESrc (prog : Program) (w : World) (A : Around) (h₀ : Heap) (L : Addr) (m : Str → Option Value) (env : Env) (elt : PySem.Expr) (x x₂ : Str) (scope : Scope) (cl : List (Str × Addr)) (Q : Value → Shared → Prop) (xv : Value) (s₁ : Shared) : Prop
  | mk (e it l : Addr) (vs : List Value) (ns : List Int) (nn : Nat) (news : List (Addr × Obj)) (g : Int → Int → Int) (ex : xv = .ref e) (hh : A.handled = none) (he : IsEnum s₁.heap e it 0 .none) (hit : s₁.heap.IsListIter it l 0) (h1 : e ≠ it) (h2 : l ≠ e) (h3 : l ≠ it) (h4 : h₀.objs.size ≤ it) (h5 : it < e) (h6 : L < it)
    (F : Fr h₀ L s₁.heap m) (N : News h₀ L s₁.heap news) (hl : (l, listOf vs.toArray nn) ∈ news) (hi : IntsAre vs ns) (hz : ns.length ≤ sizeLine) (hlow : ∀ p ∈ news, p.1 < it)
    (turn : ∀ s₂ : Shared, (∃ h, s₂ = { s₁ with heap := h }) → ETurn prog w A h₀ L m env elt x x₂ scope cl s₂ ns g)
    (fin : ∀ (ys : List Value) (D : Addr) (h : Heap) (tk : Nat), IntsAre ys (ns.zipIdx.map fun p => g p.2 p.1) → Fr h₀ L h m → News h₀ L h ((D, LCg.lst ys) :: news) → LCg.Off1 D news → Q (.ref D) { s₁ with heap := h, toks := tk }) : ESrc prog w A h₀ L m env elt x x₂ scope cl Q xv s₁
inductive EInv (h₀ : Heap) (L : Addr) (m : Str → Option Value) (s₁ : Shared) (ns : List Int) (g : Int → Int → Int) (e it l : Addr) (vs : List Value) (D : Addr) (news : List (Addr × Obj)) (k : Nat) (s' : Shared) : Prop
  | mk (h' : Heap) (tk : Nat) (i : Nat) (ys : List Value) (m' : Str → Option Value) (e1 : s' = { s₁ with heap := h', toks := tk }) (e2 : i ≤ ns.length) (e3 : k = ns.length + 1 - i) (e4 : IntsAre ys ((ns.zipIdx.take i).map fun p => g p.2 p.1))
    (e5 : (∃ old, IsEnum h' e it i old) ∧ (h'.IsListIter it l i ∧ h'.IsList l vs.toArray)) (e6 : Fr h₀ L h' m) (e7 : h'.Ns (D + 1) m') (e8 : News h₀ L h' ((D, LCg.lst ys) :: news)) : EInv h₀ L m s₁ ns g e it l vs D news k s'
theorem enum_src {elt : PySem.Expr} {x x₂ : Str} {scope : Scope} {cl : List (Str × Addr)} {l : Addr} {vs : List Value} {ns : List Int} {nn : Nat} {news : List (Addr × Obj)} {Q : Value → Shared → Prop} (g : Int → Int → Int)
    (hh : A.handled = none) (hl : (l, listOf vs.toArray nn) ∈ news) (hi : IntsAre vs ns) (hsz : ns.length ≤ sizeLine) (F : Fr h₀ L s.heap m) (N : News h₀ L s.heap news)
    (turn : ∀ s₂ : Shared, (∃ h, s₂ = { s with heap := h }) → ETurn prog w A h₀ L m env elt x x₂ scope cl s₂ ns g)
    (fin : ∀ (ys : List Value) (D : Addr) (h : Heap) (tk : Nat), IntsAre ys (ns.zipIdx.map fun p => g p.2 p.1) → Fr h₀ L h m → News h₀ L h ((D, LCg.lst ys) :: news) → LCg.Off1 D news → Q (.ref D) { s with heap := h, toks := tk }) :
    wpAny (model prog w) A (call (.type "enumerate") [.ref l]) (ESrc prog w A h₀ L m env elt x x₂ scope cl Q) E s := by
  have hol : s.heap.get? l = some (listOf vs.toArray nn) := (N _ hl).1
  have hls : s.heap.IsList l vs.toArray := ⟨_, hol, rfl, nn, rfl⟩
  have hlt : l < s.heap.objs.size := Heap.lt_size hol
  have hLs : L < s.heap.objs.size := F.ns.lt
  have hab : h₀.objs.size ≤ L := F.above
  refine call_enumerate_list hls fun h' he hit hsz' hk => ?_
  have F' : Fr h₀ L h' m := ⟨F.ns.keeps hk, fun b o e => hk b o (F.keep b o e), F.above⟩
  have N' : News h₀ L h' news := fun p hp => ⟨hk _ _ (N p hp).1, (N p hp).2⟩
  exact ⟨_, _, l, vs, ns, nn, news, g, rfl, hh, he, hit, Nat.succ_ne_self _, Nat.ne_of_lt (Nat.lt_succ_of_lt hlt), Nat.ne_of_lt hlt, Nat.le_trans hab (Nat.le_of_lt hLs), Nat.lt_succ_self _, hLs, F', N', hl, hi, hsz,
    fun p hp => Heap.lt_size (N p hp).1, fun s₂ ⟨h, e⟩ => turn s₂ ⟨h, e⟩, fin⟩
theorem ListComp_enum {elt iter : PySem.Expr} {x x₂ : Str} {px px₂ tp : Pos} {tkk : Nat} {scope : Scope} {cl : List (Str × Addr)} {pos : Pos} {Q : Value → Shared → Prop} (_F₀ : Fr h₀ L s.heap m)
    (hclos : closureFor scope env = pure cl) (hcell : ∀ y ∈ scope.names, y.2 ≠ .cell) (hkind : scope.kind = .function)
    (hnames : ∀ y ∈ scope.names, y.2 = .local → scope.names.lookup y.1 = some .local) (hx : scope.names.lookup x = some .local) (hx₂ : scope.names.lookup x₂ = some .local) (hxx : x ≠ x₂)
    (h : wpAny (model prog w) A (eval iter env) (ESrc prog w A h₀ L m env elt x x₂ scope cl Q) E s)
    (hs : ∀ x, foldedSetIterable iter env x = pure x := by intro _; rfl) :
    wpAny (model prog w) A (eval (.ListComp elt [⟨.Tuple [.Name x px, .Name x₂ px₂] tkk tp, iter, [], 0⟩] scope pos) env) Q E s := by
  rw [eval_ListComp]
  refine wpAny_comprehension_free (use := none) rfl hs hclos hkind hnames (wpAny_mono h (fun xv s₁ h₁ => ?_) fun _ _ e => e)
  obtain ⟨e, it, l, vs, ns, nn, news, g, rfl, hh, he, hit, hei, hle, hlit, habove, hie, hLit, F, N, hl, hi, hsz, hlow, turn, fin⟩ := h₁
  have hol : s₁.heap.get? l = some (listOf vs.toArray nn) := (N _ hl).1
  have hls : s₁.heap.IsList l vs.toArray := ⟨_, hol, rfl, nn, rfl⟩
  have hlen : vs.toArray.size = ns.length := by simp [hi.length]
  have hesz : e < s₁.heap.objs.size := Heap.lt_size he
  have hisz : it < s₁.heap.objs.size := Nat.lt_trans hie hesz
  have hLsz : L < s₁.heap.objs.size := Nat.lt_trans hLit hisz
  have he₀ : h₀.get? e = none := Heap.get?_none_of_le (Nat.le_trans habove (Nat.le_of_lt hie))
  have hi₀ : h₀.get? it = none := Heap.get?_none_of_le habove
  refine wpAny_pyIter_enum he ?_
  have DD := Draws.list (prog := prog) (w := w) (A := A.in1) hh it l hlit vs.toArray
  rw [hlen] at DD
  have W := WalksT.enumerateD DD e hei (by
    intro hm
    rcases List.mem_cons.mp hm with q | hm
    · exact hei q
    · exact hle (List.mem_singleton.mp hm).symm) (by simp)
  -- the list that is built (D), the block's own names (C)
  refine wpAny_newObj_type (wpAny_newFunctionEnv hcell (by intro y hy; simp at hy) (fun h₁ hns₁ hsb₁ => ?_) hkind)
  dsimp only at hns₁ hsb₁ ⊢
  generalize hH2 : s₁.heap.push { cls := .type "list", dict := none, data := .seq ([] : List Value).toArray } = H2 at hns₁ hsb₁ ⊢
  have hC : H2.objs.size = s₁.heap.objs.size + 1 := by rw [← hH2, Heap.size_push]
  generalize hDd : s₁.heap.objs.size = D at *
  generalize hCc : H2.objs.size = C at *
  subst hC
  have bel : ∀ b, b < D → b ≠ D + 1 ∧ b ≠ D := fun b hb => ⟨Nat.ne_of_lt (Nat.lt_succ_of_lt hb), Nat.ne_of_lt hb⟩
  have old : ∀ b o, s₁.heap.get? b = some o → h₁.get? b = some o := fun b o q => hsb₁.extBut b o (bel b (hDd ▸ Heap.lt_size q)).1 (Heap.get?_push_of_some _ (hH2 ▸ Heap.get?_push_of_some _ q))
  have hacc : h₁.get? D = some (LCg.lst []) := hsb₁.extBut _ _ (Nat.ne_of_lt (Nat.lt_succ_self _)) (Heap.get?_push_of_some _ (by rw [← hH2, ← hDd]; exact Heap.get?_push_size _ rfl))
  have hD₀ : h₀.get? D = none := Heap.get?_none_of_le (Nat.le_trans habove (Nat.le_of_lt hisz))
  have hC₀ : h₀.get? (D + 1) = none := Heap.get?_none_of_le (Nat.le_trans habove (Nat.le_of_lt (Nat.lt_succ_of_lt hisz)))
  have hDL : D ≠ L := Nat.ne_of_gt hLsz
  have hCL : D + 1 ≠ L := Nat.ne_of_gt (Nat.lt_succ_of_lt hLsz)
  have wrne : ∀ b, (b < it ∨ D ≤ b) → b ∉ [e, it] := fun b hb hm => by
    rcases List.mem_cons.mp hm with q | hm
    · rcases hb with hb | hb
      · exact absurd hb (by rw [q]; exact Nat.not_lt.mpr (Nat.le_of_lt hie))
      · exact absurd hesz (Nat.not_lt.mpr (q ▸ hb))
    · have q := List.mem_singleton.mp hm
      rcases hb with hb | hb
      · exact absurd hb (q ▸ Nat.lt_irrefl _)
      · exact absurd hisz (Nat.not_lt.mpr (q ▸ hb))
  have h₀ne : ∀ b o, h₀.get? b = some o → b ∉ [e, it] := fun b o q => wrne b (.inl (Nat.lt_of_lt_of_le (Heap.lt_size q) habove))
  have fpne : ∀ b ∈ e :: [it, l], b < D := fun b hb => by
    rcases List.mem_cons.mp hb with rfl | hb
    · exact hesz
    · rcases List.mem_cons.mp hb with rfl | hb
      · exact hisz
      · rw [List.mem_singleton.mp hb]; exact Nat.lt_trans (hlow _ hl) hisz
  have loop : ∀ s₃ : Shared, s₃ = { s₁ with heap := h₁, toks := s₁.toks + ([] : List (Str × Value)).length } →
      codeAny (model prog w) A (.compLoop (.ListComp elt [⟨.Tuple [.Name x px, .Name x₂ px₂] tkk tp, iter, [], 0⟩] scope pos) 0 (.ref e) (.ref D) (compEnvC scope cl (D + 1) env))
        (compPost (model prog w) A E none Q (.ref D) (D + 1)) s₃ := by
    rintro s₃ rfl
    refine LCp.codeAny_compLoop_pair
      (EInv h₀ L m s₁ ns g e it l vs D news) ?_ (ns.length + 1)
      ⟨h₁, _, 0, [], _, rfl, Nat.zero_le _, rfl, .nil, ⟨⟨.none, by simpa using old _ _ he⟩, hit.at fun o q => old _ o q, hls.at fun o q => old _ o q⟩, F.keeps old, hns₁, fun p hp => ?_⟩
    · rintro k s' ⟨h', tk, i, ys, m', rfl, hile, rfl, hys, hst, F', hn', N'⟩
      have hyl : ys.length = i := by
        have := hys.length
        simp only [List.length_map, List.length_take, List.length_zipIdx] at this
        omega
      by_cases hlt : i < ns.length
      · refine W.item i _ _ _ hlt hst fun T vals h₂ tk₂ hP hTs hT hMid hk₂ => ?_
        obtain ⟨t, xv, hxv, rfl⟩ := hP
        obtain ⟨tv, hxi⟩ := hi.get i ns[i] (by simp [hlt])
        have hv1 : xv = .int ns[i] tv := by
          have hv' : vs[i]? = some xv := by simpa using hxv
          rw [hxi] at hv'; exact (Option.some.inj hv').symm
        subst hv1
        refine W.go _ tkk tp i T _ _ _ hMid fun h₃ hst₃ hk₃ => ?_
        have ht₃ : h₃.IsTuple T #[.int i t, .int ns[i] tv] := hT.at fun o q => hk₃ T o (W.apart i T h₂ hMid) q
        have keep : ∀ b o, b ∉ [e, it] → h'.get? b = some o → h₃.get? b = some o := fun b o hb q => hk₃ b o hb (hk₂ b o hb q)
        have F₃ : Fr h₀ L h₃ m := ⟨F'.ns.at' fun o q => keep _ o (wrne _ (.inl hLit)) q, fun b o q => keep b o (h₀ne b o q) (F'.keep b o q), F'.above⟩
        have n₃ : h₃.Ns (D + 1) m' := hn'.at' fun o q => keep _ o (wrne _ (.inr (Nat.le_succ _))) q
        have pne : ∀ p ∈ (D, LCg.lst ys) :: news, p.1 ∉ [e, it] := fun p hp => by
          rcases List.mem_cons.mp hp with rfl | hp
          · exact wrne _ (.inr (Nat.le_refl _))
          · exact wrne _ (.inl (hlow p hp))
        have N₃ : News h₀ L h₃ ((D, LCg.lst ys) :: news) := fun p hp => ⟨keep _ _ (pne p hp) (N' p hp).1, (N' p hp).2⟩
        have ht : IsTup h₃ T #[.int i t, .int ns[i] tv] := by obtain ⟨o, q1, q2, q3⟩ := ht₃; exact ⟨o, q1, q2, q3⟩
        refine assign_Tuple_tuple hh ht rfl rfl fun h₄ hx₄ => ?_
        have up₄ : ∀ b o, h₃.get? b = some o → h₄.get? b = some o := fun b o q => hx₄ b o (Nat.ne_of_lt (Heap.lt_size q)) q
        refine assignInOrder_cons (wpAny_assign_Name (wpAny_storeName_local (lookup_relabel_local hx) (n₃.at' fun o q => up₄ _ o q) (fun h₅ hn₅ hs₅ => ?_) (by simp [compEnvC, relabel, hkind])))
        refine assignInOrder_cons (wpAny_assign_Name (wpAny_storeName_local (lookup_relabel_local hx₂) hn₅ (fun h₆ hn₆ hs₆ => ?_) (by simp [compEnvC, relabel, hkind])))
        refine assignInOrder_nil ?_
        have up₆ : ∀ b o, b ≠ D + 1 → h₃.get? b = some o → h₆.get? b = some o := fun b o hb q => hs₆.extBut b o hb (hs₅.extBut b o hb (up₄ b o q))
        obtain ⟨oC, heC, hoC⟩ := LCg.ns_obj hn₆
        have F₆ : Fr h₀ L h₆ m := ((F₃.keeps up₄).change hs₅ hCL hC₀).change hs₆ hCL hC₀
        have hst₆ : (∃ old, IsEnum h₆ e it ((i + 1 : Nat) : Int) old) ∧ (h₆.IsListIter it l (i + 1) ∧ h₆.IsList l vs.toArray) := W.frame (i + 1) _ _ hst₃ fun b hb o q => up₆ b o (bel b (fpne b hb)).1 q
        obtain ⟨⟨oldv, hen⟩, hli, hlist⟩ := hst₆
        obtain ⟨oit, hoit, hcit, hdit⟩ := id hli
        have N₆ : News h₀ L h₆ ((D + 1, oC) :: (e, _) :: (it, oit) :: (D, LCg.lst ys) :: news) := fun p hp => by
          rcases List.mem_cons.mp hp with rfl | hp
          · exact ⟨heC, hCL, hC₀⟩
          · rcases List.mem_cons.mp hp with rfl | hp
            · exact ⟨hen, Nat.ne_of_gt (Nat.lt_trans hLit hie), he₀⟩
            · rcases List.mem_cons.mp hp with rfl | hp
              · exact ⟨hoit, Nat.ne_of_gt hLit, hi₀⟩
              · refine ⟨up₆ _ _ ?_ (N₃ p hp).1, (N₃ p hp).2⟩
                rcases List.mem_cons.mp hp with rfl | hp
                · exact Nat.ne_of_lt (Nat.lt_succ_self _)
                · exact (bel _ (Nat.lt_trans (hlow p hp) hisz)).1
        refine wpAny_mono (turn { s₁ with heap := h₆ } ⟨h₆, rfl⟩ i ns[i] t tv (D + 1) oC _ _ h₆ _ _ (by simp [hlt]) (List.getElem_mem _) hlt hoC (by simp [hxx]) (by simp) F₆ N₆) (fun y s₄ h₄' => ?_) fun _ _ q => q
        obtain ⟨h₇, tk₇, t₇, rfl, rfl, F₇, N₇⟩ := h₄'
        have zC := (N₇ _ List.mem_cons_self).1
        have ze := (N₇ _ (List.mem_cons_of_mem _ List.mem_cons_self)).1
        have zi := (N₇ _ (List.mem_cons_of_mem _ (List.mem_cons_of_mem _ List.mem_cons_self))).1
        have N₇' : News h₀ L h₇ ((D, LCg.lst ys) :: news) := fun p hp => N₇ p (List.mem_cons_of_mem _ (List.mem_cons_of_mem _ (List.mem_cons_of_mem _ hp)))
        have zD := (N₇' _ List.mem_cons_self).1
        have zl := (N₇' _ (List.mem_cons_of_mem _ hl)).1
        refine append_at (hsz := by show ys.toArray.size ≤ sizeLine; rw [List.size_toArray, hyl]; exact Nat.le_trans hile hsz) zD fun h₈ hs₈ hD₈ => ?_
        have up₈ : ∀ b o, b ≠ D → h₇.get? b = some o → h₈.get? b = some o := fun b o hb q => hs₈.extBut b o hb q
        refine ⟨ns.length + 1 - (i + 1), by omega, h₈, tk₇, i + 1, ys ++ [.int (g i ns[i]) t₇], _, rfl, hlt, rfl, ?_, ⟨⟨oldv, up₈ _ _ (bel e hesz).2 ze⟩, ⟨oit, up₈ _ _ (bel it hisz).2 zi, hcit, hdit⟩, ⟨_, up₈ _ _ (bel l (Nat.lt_trans (hlow _ hl) hisz)).2 zl, rfl, nn, rfl⟩⟩,
          F₇.change hs₈ hDL hD₀, (hoC.ns zC).sameBut hs₈ (Nat.ne_of_gt (Nat.lt_succ_self _)), fun p hp => ?_⟩
        · have e1 : ns.zipIdx.take (i + 1) = ns.zipIdx.take i ++ [(ns[i], i)] := by
            rw [List.take_add_one]
            simp [hlt]
          rw [e1, List.map_append]
          exact IntsAre.append hys (.cons _ _ .nil)
        · rcases List.mem_cons.mp hp with rfl | hp
          · exact ⟨hD₈.trans (congrArg some (LCg.lst_snoc ys _)), hDL, hD₀⟩
          · exact ⟨up₈ _ _ (Nat.ne_of_lt (Nat.lt_trans (hlow p hp) hisz)) (N₇' p (List.mem_cons_of_mem _ hp)).1, (N₇' p (List.mem_cons_of_mem _ hp)).2⟩
      · obtain rfl : i = ns.length := Nat.le_antisymm hile (Nat.not_lt.mp hlt)
        refine W.done _ _ _ hst fun h₂ tk₂ hk₂ => ?_
        have pne : ∀ p ∈ (D, LCg.lst ys) :: news, p.1 ∉ [e, it] := fun p hp => by
          rcases List.mem_cons.mp hp with rfl | hp
          · exact wrne _ (.inr (Nat.le_refl _))
          · exact wrne _ (.inl (hlow p hp))
        have F₂ : Fr h₀ L h₂ m := ⟨F'.ns.at' fun o q => hk₂ _ o (wrne _ (.inl hLit)) q, fun b o q => hk₂ b o (h₀ne b o q) (F'.keep b o q), F'.above⟩
        have n₂ : h₂.Ns (D + 1) m' := hn'.at' fun o q => hk₂ _ o (wrne _ (.inr (Nat.le_succ _))) q
        have N₂ : News h₀ L h₂ ((D, LCg.lst ys) :: news) := fun p hp => ⟨hk₂ _ _ (pne p hp) (N' p hp).1, (N' p hp).2⟩
        rw [List.take_of_length_le (by simp)] at hys
        refine ⟨m', n₂, fun h'' hs'' => fin ys D h'' tk₂ hys (F₂.change hs'' hCL hC₀) (fun p hp => ⟨hs''.extBut _ _ ?_ (N₂ p hp).1, (N₂ p hp).2⟩) (off1_of fun p hp => Nat.ne_of_lt (Nat.lt_trans (hlow p hp) hisz))⟩
        rcases List.mem_cons.mp hp with rfl | hp
        · exact Nat.ne_of_lt (Nat.lt_succ_self _)
        · exact (bel _ (Nat.lt_trans (hlow p hp) hisz)).1
    · rcases List.mem_cons.mp hp with rfl | hp
      · exact ⟨hacc, hDL, hD₀⟩
      · exact ⟨old _ _ (N p hp).1, (N p hp).2⟩
  exact codeAny_compStart_list (loop _ rfl) (wpAny_pyIter_enum (old _ _ he) (loop _ rfl))
theorem offI_of {I : Addr} {it : Obj} : ∀ {l : List (Addr × Obj)}, (∀ p ∈ l, p.1 ≠ I) → OffI I it l
  | [], _ => trivial
  | _ :: _, h => ⟨.inl (h _ List.mem_cons_self), offI_of fun p hp => h p (List.mem_cons_of_mem _ hp)⟩
variable {xn : Str} {body : List Stmt} {Q : Flow → Shared → Prop}
noncomputable def RevEnd (h₀ : Heap) (L : Addr) (s₁ : Shared) (x y : Str) (m₀ : Str → Option Value) (v : Int) (all : List (Addr × Obj)) (s₂ : Shared) : Prop :=
  ∃ h' tk m' t', s₂ = { s₁ with heap := h', toks := tk } ∧ Fr h₀ L h' m' ∧ News h₀ L h' all ∧ m' y = some (.int v t') ∧ ∀ z, z ≠ x → z ≠ y → m' z = m₀ z
theorem rev_end {s₁ : Shared} {x y : Str} {m₀ m' : Str → Option Value} {v : Int} {all : List (Addr × Obj)} {h' : Heap} {tk : Nat} {t' : Tok} (F : Fr h₀ L h' m') (N : News h₀ L h' all) (hy : m' y = some (.int v t')) (ho : ∀ z, z ≠ x → z ≠ y → m' z = m₀ z) :
    RevEnd h₀ L s₁ x y m₀ v all { s₁ with heap := h', toks := tk } := ⟨h', tk, m', t', rfl, F, N, hy, ho⟩
/-- a turn of a for over reversed(l) that turns one int -/
noncomputable def RevPost (h₀ : Heap) (L : Addr) (s₁ : Shared) (x y : Str) (m₀ : Str → Option Value) (v : Int) (all : List (Addr × Obj)) (Q : Flow → Shared → Prop) (f : Flow) (s₂ : Shared) : Prop :=
  match f with
  | .ret v => Q (.ret v) s₂
  | .brk => Q .next s₂
  | _ => RevEnd h₀ L s₁ x y m₀ v all s₂
theorem rev_rest {I ax : Addr} {lo : Obj} {y : Str} {m₀ : Str → Option Value} {news : List (Addr × Obj)} {NS : List Int} (g : Int → Int → Int) (hyx : y ≠ xn) (hm : (ax, lo) ∈ news) (hoff : ∀ p ∈ news, p.1 ≠ I)
    (turn : ∀ n t a ta (it : Obj) h tk, n ∈ NS → Fr h₀ env.locals h (fun z => if z = xn then some (.int n t) else if z = y then some (.int a ta) else m₀ z) → News h₀ env.locals h ((I, it) :: news) →
      wpAny (model prog w) A (execs body env) (RevPost h₀ env.locals { s with heap := h, toks := tk } xn y m₀ (g a n) ((I, it) :: news) Q) E { s with heap := h, toks := tk }) :
    ∀ {vs : List Value} {ns : List Int}, IntsAre vs ns → (∀ n ∈ ns, n ∈ NS) → ∀ (m : Str → Option Value) (a₀ : Int) (t₀ : Tok), m y = some (.int a₀ t₀) → (∀ z, z ≠ xn → z ≠ y → m z = m₀ z) →
      (∀ (u : Str → Option Value) t h tk, Fr h₀ env.locals h (fun z => if z = xn then u z else if z = y then some (.int (ns.foldl g a₀) t) else m₀ z) → News h₀ env.locals h news → Q .next { s with heap := h, toks := tk }) →
      RevRest prog w A E h₀ env xn body Q s I (ax, lo) vs m news := by
  intro vs ns hi
  induction hi with
  | nil =>
    intro _ m a₀ t₀ hy ho done
    refine RevRest.zero fun h tk F N => done m t₀ h tk ?_ N
    have e : (fun z => if z = xn then m z else if z = y then some (Value.int (([] : List Int).foldl g a₀) t₀) else m₀ z) = m := by
      funext z
      by_cases h1 : z = xn
      · rw [if_pos h1]
      · rw [if_neg h1]
        by_cases h2 : z = y
        · rw [if_pos h2, h2, hy]; rfl
        · rw [if_neg h2]; exact (ho z h1 h2).symm
    rw [e]; exact F
  | @cons n t vs ns hi ih =>
    intro hN m a₀ t₀ hy ho done
    refine RevRest.succ fun it h tk _ F N => ?_
    have e : (fun z => if z = xn then some (Value.int n t) else m z) = fun z => if z = xn then some (Value.int n t) else if z = y then some (Value.int a₀ t₀) else m₀ z := by
      funext z
      by_cases h1 : z = xn
      · rw [if_pos h1, if_pos h1]
      · rw [if_neg h1, if_neg h1]
        by_cases h2 : z = y
        · rw [if_pos h2, h2, hy]
        · rw [if_neg h2]; exact ho z h1 h2
    rw [e] at F
    refine wpAny_mono (turn n t a₀ t₀ it h tk (hN n List.mem_cons_self) F N) (fun f s₂ p => ?_) fun _ _ q => q
    have up : (∃ h' tk' m' t', s₂ = { s with heap := h', toks := tk' } ∧ Fr h₀ env.locals h' m' ∧ News h₀ env.locals h' ((I, it) :: news) ∧ m' y = some (.int (g a₀ n) t') ∧ ∀ z, z ≠ xn → z ≠ y → m' z = m₀ z) →
        UnrEnd h₀ env.locals { s with heap := h, toks := tk } I it (fun m' n' => (ax, lo) ∈ n' ∧ RevRest prog w A E h₀ env xn body Q s I (ax, lo) vs m' n') s₂ := by
      rintro ⟨h', tk', m', t', rfl, F', N', hy', ho'⟩
      exact ⟨h', tk', m', news, rfl, F', N', hoff, hm, ih (fun k hk => hN k (List.mem_cons_of_mem _ hk)) m' (g a₀ n) t' hy' ho' done⟩
    cases f with
    | ret v => exact p
    | brk => exact p
    | next => exact up p
    | cont => exact up p
theorem ints_rev {vs : List Value} {ns : List Int} (h : IntsAre vs ns) : IntsAre vs.reverse ns.reverse := by
  induction h with
  | nil => exact .nil
  | cons n t _ ih => rw [List.reverse_cons, List.reverse_cons]; exact IntsAre.append ih (.cons n t .nil)
theorem iter_rev_acc {I ax : Addr} {vs : List Value} {ns : List Int} {nn : Nat} {y : Str} {a₀ : Int} {t₀ : Tok} {m₀ : Str → Option Value} {news : List (Addr × Obj)} (g : Int → Int → Int) (hyx : y ≠ xn)
    (hh : A.handled = none) (F : Fr h₀ env.locals s.heap m₀) (N : News h₀ env.locals s.heap ((I, revObj ax ((vs.length : Int) - 1)) :: news)) (hoff : ∀ p ∈ news, p.1 ≠ I) (hm : (ax, listOf vs.toArray nn) ∈ news) (hi : IntsAre vs ns) (hy : m₀ y = some (.int a₀ t₀))
    (turn : ∀ n t a ta (it : Obj) h tk, n ∈ ns → Fr h₀ env.locals h (fun z => if z = xn then some (.int n t) else if z = y then some (.int a ta) else m₀ z) → News h₀ env.locals h ((I, it) :: news) →
      wpAny (model prog w) A (execs body env) (RevPost h₀ env.locals { s with heap := h, toks := tk } xn y m₀ (g a n) ((I, it) :: news) Q) E { s with heap := h, toks := tk })
    (done : ∀ (u : Str → Option Value) t h tk, Fr h₀ env.locals h (fun z => if z = xn then u z else if z = y then some (.int (ns.reverse.foldl g a₀) t) else m₀ z) → News h₀ env.locals h news → Q .next { s with heap := h, toks := tk }) :
    wpAny (model prog w) A (pyIter (.ref I)) (fun it s₂ => LoopAtV prog w A h₀ env xn body Q E it s₂) E s :=
  iter_revUnr hh F N (offI_of hoff) hm rfl rfl (rev_rest g hyx hm hoff turn (ints_rev hi) (fun n hn => List.mem_reverse.mp hn) m₀ a₀ t₀ hy (fun _ _ _ => rfl) done)
end
end Mine
end
section
namespace Mine
/-- found[o + i] += left * ys[i], i over pre -/
noncomputable def mulInner (found : List Int) (o : Nat) (left : Int) : List Int → List Int := fun pre => (pre.zipIdx).foldl (fun f p => f.set (o + p.2) (f.getD (o + p.2) 0 + left * p.1)) found
theorem mulInner_nil (found : List Int) (o : Nat) (left : Int) : mulInner found o left [] = found := rfl
theorem mulInner_snoc (found : List Int) (o : Nat) (left : Int) (pre : List Int) (n : Int) :
    mulInner found o left (pre ++ [n]) = (mulInner found o left pre).set (o + pre.length) ((mulInner found o left pre).getD (o + pre.length) 0 + left * n) := by
  simp [mulInner, List.zipIdx_append, List.foldl_append]
theorem mulInner_length (found : List Int) (o : Nat) (left : Int) (pre : List Int) : (mulInner found o left pre).length = found.length := by
  unfold mulInner
  generalize pre.zipIdx = l
  induction l generalizing found with
  | nil => rfl
  | cons p r ih => rw [List.foldl_cons, ih, List.length_set]
noncomputable def mulOuter (found : List Int) (ys : List Int) : List Int → List Int := fun pre => (pre.zipIdx).foldl (fun f p => if p.1 ≠ 0 then mulInner f p.2 p.1 ys else f) found
theorem mulOuter_nil (found ys : List Int) : mulOuter found ys [] = found := rfl
theorem mulOuter_snoc (found ys pre : List Int) (n : Int) : mulOuter found ys (pre ++ [n]) = if n ≠ 0 then mulInner (mulOuter found ys pre) pre.length n ys else mulOuter found ys pre := by
  simp [mulOuter, List.zipIdx_append, List.foldl_append]
theorem mulOuter_length (found ys pre : List Int) : (mulOuter found ys pre).length = found.length := by
  unfold mulOuter
  generalize pre.zipIdx = l
  induction l generalizing found with
  | nil => rfl
  | cons p r ih =>
    rw [List.foldl_cons, ih]
    by_cases h : p.1 ≠ 0
    · rw [if_pos h, mulInner_length]
    · rw [if_neg h]
noncomputable def zmulP (xs ys : List Int) : List Int := if xs.length = 0 ∨ ys.length = 0 then [] else mulOuter (List.replicate (xs.length + ys.length - 1) 0) ys xs
end Mine
namespace Mine
theorem flat_rep {α : Type} (k : Nat) (x : α) : (List.replicate k [x]).flatten = List.replicate k x := by
  induction k with
  | zero => rfl
  | succ k ih => simp [List.replicate_succ, ih]
theorem zmul_start (xs zs : List Int) : (List.replicate ((xs.length : Int) + (zs.length : Int) - 1).toNat [(0 : Int)]).flatten = mulOuter (List.replicate (xs.length + zs.length - 1) 0) zs [] := by
  rw [flat_rep, mulOuter_nil]
  congr 1
  omega
theorem outer0 {F f zs pre : List Int} {n : Int} {k : Nat} (h : f = mulOuter F zs pre ∧ f.length = k) (h0 : n = 0) : f = mulOuter F zs (pre ++ [n]) ∧ f.length = k := by
  refine ⟨?_, h.2⟩
  rw [mulOuter_snoc, if_neg (fun q => q h0), h.1]
theorem outer1 {F f f' zs pre : List Int} {n : Int} {k : Nat} (h : f = mulOuter F zs pre ∧ f.length = k) (h0 : n ≠ 0) (hf : f' = mulInner f pre.length n zs ∧ f'.length = k) : f' = mulOuter F zs (pre ++ [n]) ∧ f'.length = k := by
  refine ⟨?_, hf.2⟩
  rw [mulOuter_snoc, if_pos h0, hf.1, h.1]
end Mine
namespace Mine
theorem inner1 {g f pre : List Int} {o k : Nat} {left n : Int} (h : f = mulInner g o left pre ∧ f.length = k) :
    f.set ((o : Int) + (pre.length : Int)).toNat (f.getD ((o : Int) + (pre.length : Int)).toNat 0 + left * n) = mulInner g o left (pre ++ [n]) ∧ (f.set ((o : Int) + (pre.length : Int)).toNat (f.getD ((o : Int) + (pre.length : Int)).toNat 0 + left * n)).length = k := by
  have e : ((o : Int) + (pre.length : Int)).toNat = o + pre.length := by omega
  rw [e, List.length_set]
  refine ⟨?_, h.2⟩
  rw [mulInner_snoc, h.1]
end Mine
namespace Mine
theorem zmul_end0 {xs zs : List Int} (h : (xs.length : Int) = 0 ∨ (zs.length : Int) = 0) : [] = zmulP xs zs := by
  unfold zmulP
  rw [if_pos (by omega)]
theorem zmul_end1 {xs zs f : List Int} {k : Nat} (h1 : ¬ (xs.length : Int) = 0) (h2 : ¬ (zs.length : Int) = 0) (h : f = mulOuter (List.replicate (xs.length + zs.length - 1) 0) zs xs ∧ f.length = k) : f = zmulP xs zs := by
  unfold zmulP
  rw [if_neg (by omega), h.1]
end Mine
end
section
namespace Mine
/-- the difference, entry by entry, not trimmed -/
noncomputable def subL : List Int → List Int → List Int
  | [], ys => ys.map fun y => -y
  | xs, [] => xs
  | x :: xs, y :: ys => (x - y) :: subL xs ys
theorem subL_nil_right (xs : List Int) : subL xs [] = xs := by cases xs <;> rfl
theorem subL_length : ∀ xs ys : List Int, (subL xs ys).length = max xs.length ys.length
  | [], ys => by simp [subL]
  | x :: xs, [] => by simp [subL]
  | x :: xs, y :: ys => by simp only [subL, List.length_cons, subL_length xs ys]; omega
theorem subL_getD : ∀ (xs ys : List Int) (k : Nat), (subL xs ys).getD k 0 = xs.getD k 0 - ys.getD k 0
  | [], ys, k => by
    simp only [subL, List.getD, List.getElem?_map, List.getElem?_nil, Option.getD_none]
    cases ys[k]? <;> simp
  | x :: xs, [], k => by simp [subL, List.getD]
  | x :: xs, y :: ys, 0 => by simp [subL, List.getD]
  | x :: xs, y :: ys, k + 1 => by
    have h := subL_getD xs ys k
    simpa [subL, List.getD] using h
noncomputable def zsubP (xs ys : List Int) : List Int := ztrimP (subL xs ys)
noncomputable def zscaleP (xs : List Int) (k : Int) : List Int := if k ≠ 0 then xs.map fun x => x * k else []
noncomputable def zraiseP (xs : List Int) (k : Nat) : List Int := if 0 < xs.length then List.replicate k 0 ++ xs else []
theorem ztrimP_length_le (xs : List Int) : (ztrimP xs).length ≤ xs.length := by
  unfold ztrimP
  rw [List.length_reverse]
  have := (List.dropWhile_suffix (l := xs.reverse) (fun x => decide (x = 0))).length_le
  simpa using this
theorem ztrimP_mem {xs : List Int} {x : Int} (h : x ∈ ztrimP xs) : x ∈ xs := by
  unfold ztrimP at h
  have h2 := (List.dropWhile_suffix (l := xs.reverse) (fun x => decide (x = 0))).subset (List.mem_reverse.mp h)
  simpa using h2
theorem ztrimP_last0 {xs : List Int} {k : Nat} (hk : xs.length ≤ k + 1) (h : xs.getD k 0 = 0) : (ztrimP xs).length ≤ k := by
  by_cases h1 : xs.length ≤ k
  · exact Nat.le_trans (ztrimP_length_le xs) h1
  · have e : xs.length = k + 1 := by omega
    have hx : xs = xs.take k ++ [0] := by
      have e2 : xs = xs.take k ++ [xs.getD k 0] := by
        have hk2 : k < xs.length := by omega
        have := List.take_append_drop k xs
        have hd : xs.drop k = [xs.getD k 0] := by
          rw [List.drop_eq_getElem_cons hk2, List.drop_of_length_le (by omega)]
          simp [List.getD, hk2]
        rw [hd] at this
        exact this.symm
      rw [h] at e2
      exact e2
    rw [hx, ztrimP_snoc0]
    exact Nat.le_trans (ztrimP_length_le _) (by rw [List.length_take]; omega)
/-- one turn of the pseudo-division -/
noncomputable def psRest (b : List Int) (first : Int) (rest : List Int) : List Int :=
  zsubP (zscaleP rest first) (zraiseP (zscaleP b (rest.getLastD 0)) (rest.length - b.length))
noncomputable def psFound (b : List Int) (first : Int) (rest found : List Int) : List Int :=
  zsubP (zscaleP found first) (zraiseP [-(rest.getLastD 0)] (rest.length - b.length))
theorem zscaleP_length_le (xs : List Int) (k : Int) : (zscaleP xs k).length ≤ xs.length := by
  unfold zscaleP
  split <;> simp
theorem zscaleP_getD (xs : List Int) (k : Int) (i : Nat) : (zscaleP xs k).getD i 0 = xs.getD i 0 * k := by
  unfold zscaleP
  split
  · simp only [List.getD, List.getElem?_map]
    cases xs[i]? <;> simp
  · rename_i h
    have : k = 0 := Decidable.not_not.mp h
    simp [this, List.getD]
theorem zraiseP_length_le (xs : List Int) (k : Nat) : (zraiseP xs k).length ≤ k + xs.length := by
  unfold zraiseP
  split <;> simp
theorem zraiseP_getD (xs : List Int) (k i : Nat) : (zraiseP xs k).getD (k + i) 0 = xs.getD i 0 := by
  unfold zraiseP
  split
  · simp [List.getD, List.getElem?_append_right]
  · rename_i h
    have : xs = [] := List.eq_nil_of_length_eq_zero (by omega)
    simp [this, List.getD]
theorem getLastD_getD {xs : List Int} (h : 0 < xs.length) : xs.getLastD 0 = xs.getD (xs.length - 1) 0 := by
  rw [List.getLastD_eq_getLast?, List.getLast?_eq_getElem?, List.getD]
theorem psRest_length {b rest : List Int} (hb : 0 < b.length) (h : b.length ≤ rest.length) : (psRest b (b.getLastD 0) rest).length < rest.length := by
  obtain ⟨k, hk⟩ : ∃ k, rest.length = k + 1 := ⟨rest.length - 1, by omega⟩
  suffices hs : (psRest b (b.getLastD 0) rest).length ≤ k by omega
  unfold psRest zsubP
  refine ztrimP_last0 ?_ ?_
  · rw [subL_length]
    have h1 := zscaleP_length_le rest (b.getLastD 0)
    have h2 := zraiseP_length_le (zscaleP b (rest.getLastD 0)) (rest.length - b.length)
    have h3 := zscaleP_length_le b (rest.getLastD 0)
    omega
  · rw [subL_getD, zscaleP_getD]
    have e : k = (rest.length - b.length) + (b.length - 1) := by omega
    have e2 : (zraiseP (zscaleP b (rest.getLastD 0)) (rest.length - b.length)).getD k 0 = b.getD (b.length - 1) 0 * rest.getLastD 0 := by
      conv => lhs; rw [e]
      rw [zraiseP_getD, zscaleP_getD]
    rw [e2, getLastD_getD hb, getLastD_getD (xs := rest) (by omega)]
    have e3 : rest.length - 1 = k := by omega
    rw [e3, Int.mul_comm]; omega
/-- the pseudo-division's loop: fuel, then (rest, found, left) -/
noncomputable def psLoop (b : List Int) : Nat → List Int → List Int → Int → List Int × List Int × Int
  | 0, rest, found, left => (rest, found, left)
  | n + 1, rest, found, left => if b.length ≤ rest.length then psLoop b n (psRest b (b.getLastD 0) rest) (psFound b (b.getLastD 0) rest found) (left - 1) else (rest, found, left)
/-- the loop's state after i turns, as it goes -/
noncomputable def psAt (b a : List Int) (many : Int) : Nat → List Int × List Int × Int
  | 0 => (a, [], many)
  | i + 1 => (psRest b (b.getLastD 0) (psAt b a many i).1, psFound b (b.getLastD 0) (psAt b a many i).1 (psAt b a many i).2.1, (psAt b a many i).2.2 - 1)
end Mine
namespace Mine
/-- how often the pseudo-division turns -/
noncomputable def manyP (xs zs : List Int) : Int := if (xs.length : Int) - (zs.length : Int) + 1 > 0 then (xs.length : Int) - (zs.length : Int) + 1 else 0
/-- every number that the loop multiplies is small enough -/
noncomputable def psOk (b : List Int) : Nat → List Int → List Int → Prop
  | 0, _, _ => True
  | n + 1, rest, found => (∀ x ∈ rest, Sm x) ∧ (∀ x ∈ found, Sm x) ∧ (b.length ≤ rest.length → psOk b n (psRest b (b.getLastD 0) rest) (psFound b (b.getLastD 0) rest found))
/-- the loop's word: it goes to R -/
noncomputable def PsInv (b : List Int) (K : Nat) (R : List Int × List Int × Int) (rest found : List Int) (left : Int) : Prop :=
  ∃ n, rest.length + 1 ≤ n ∧ psLoop b n rest found left = R ∧ psOk b n rest found ∧ rest.length ≤ K ∧ found.length ≤ K
theorem PsInv.start {b a : List Int} {many : Int} {R : List Int × List Int × Int} (h : psLoop b (a.length + 1) a [] many = R) (ho : psOk b (a.length + 1) a []) : PsInv b a.length R a [] many :=
  ⟨a.length + 1, Nat.le_refl _, h, ho, Nat.le_refl _, Nat.zero_le _⟩
theorem PsInv.sm {b : List Int} {K : Nat} {R : List Int × List Int × Int} {rest found : List Int} {left : Int} (h : PsInv b K R rest found left) : (∀ x ∈ rest, Sm x) ∧ (∀ x ∈ found, Sm x) := by
  obtain ⟨n, hn, _, ho, _⟩ := h
  cases n with
  | zero => omega
  | succ n => exact ⟨ho.1, ho.2.1⟩
theorem PsInv.len {b : List Int} {K : Nat} {R : List Int × List Int × Int} {rest found : List Int} {left : Int} (h : PsInv b K R rest found left) : rest.length ≤ K ∧ found.length ≤ K := by
  obtain ⟨n, _, _, _, h1, h2⟩ := h
  exact ⟨h1, h2⟩
theorem PsInv.done {b : List Int} {K : Nat} {R : List Int × List Int × Int} {rest found : List Int} {left : Int} (h : PsInv b K R rest found left) (hc : ¬ b.length ≤ rest.length) : (rest, found, left) = R := by
  obtain ⟨n, hn, hl, _⟩ := h
  cases n with
  | zero => omega
  | succ n => rw [psLoop, if_neg hc] at hl; exact hl
theorem PsInv.step {b : List Int} {K : Nat} {R : List Int × List Int × Int} {rest found : List Int} {left : Int} (hb : 0 < b.length) (h : PsInv b K R rest found left) (hc : b.length ≤ rest.length) :
    PsInv b K R (psRest b (b.getLastD 0) rest) (psFound b (b.getLastD 0) rest found) (left - 1) := by
  obtain ⟨n, hn, hl, ho, h1, h2⟩ := h
  have hlt := psRest_length hb hc
  cases n with
  | zero => omega
  | succ n =>
    rw [psLoop, if_pos hc] at hl
    refine ⟨n, by omega, hl, ho.2.2 hc, by omega, ?_⟩
    have e1 : (psFound b (b.getLastD 0) rest found).length ≤ max (zscaleP found (b.getLastD 0)).length (zraiseP [-(rest.getLastD 0)] (rest.length - b.length)).length := by
      unfold psFound zsubP
      exact Nat.le_trans (ztrimP_length_le _) (by rw [subL_length]; exact Nat.le_refl _)
    have e2 := zscaleP_length_le found (b.getLastD 0)
    have e3 := zraiseP_length_le [-(rest.getLastD 0)] (rest.length - b.length)
    simp only [List.length_cons, List.length_nil] at e3
    omega
end Mine
namespace Mine
theorem getLastD_mem {xs : List Int} (h : 0 < xs.length) : xs.getLastD 0 ∈ xs := by
  rw [getLastD_getD h, List.getD_eq_getElem?_getD, List.getElem?_eq_getElem (by omega)]
  exact List.getElem_mem _
theorem getD_last {xs : List Int} (h : 0 < xs.length) : xs.getD (-1 + (xs.length : Int)).toNat 0 = xs.getLastD 0 := by
  have e : (-1 + (xs.length : Int)).toNat = xs.length - 1 := by omega
  rw [e, getLastD_getD h]
theorem getD_last_mem {xs : List Int} (h : 0 < xs.length) : xs.getD (-1 + (xs.length : Int)).toNat 0 ∈ xs := by
  rw [getD_last h]; exact getLastD_mem h
theorem PsInv.fin {b : List Int} {K : Nat} {R : List Int × List Int × Int} {rest found : List Int} {left : Int} (h : PsInv b K R rest found left) (hc : ¬ (b.length : Int) ≤ (rest.length : Int)) : (rest, found, left) = R := h.done (by omega)
theorem PsInv.more {b : List Int} {K : Nat} {R : List Int × List Int × Int} {rest found : List Int} {left : Int} (h : PsInv b K R rest found left) (hc : ¬ (b.length : Int) ≤ (rest.length : Int)) (hm : Sm (b.getLastD 0 ^ R.2.2.toNat)) : Sm (b.getLastD 0 ^ left.toNat) := by
  have e := h.fin hc
  rw [← e] at hm; exact hm
theorem PsInv.left {b : List Int} {K : Nat} {R : List Int × List Int × Int} {rest found : List Int} {left : Int} (h : PsInv b K R rest found left) (hc : ¬ (b.length : Int) ≤ (rest.length : Int)) (hm : 0 ≤ R.2.2 ∧ R.2.2 ≤ 1000) : 0 ≤ left ∧ left ≤ 1000 := by
  have e := h.fin hc
  rw [← e] at hm; exact hm
theorem ps_step {b : List Int} {K : Nat} {R : List Int × List Int × Int} {rest found : List Int} {left : Int} (hb : 0 < b.length) (h : PsInv b K R rest found left) (hc : (b.length : Int) ≤ (rest.length : Int)) :
    PsInv b K R (zsubP (zscaleP rest (b.getLastD 0)) (zraiseP (zscaleP b (rest.getD (-1 + (rest.length : Int)).toNat 0)) ((rest.length : Int) - (b.length : Int)).toNat))
      (zsubP (zscaleP found (b.getLastD 0)) (zraiseP [-(rest.getD (-1 + (rest.length : Int)).toNat 0)] ((rest.length : Int) - (b.length : Int)).toNat)) (left - 1)
    ∧ (zsubP (zscaleP rest (b.getLastD 0)) (zraiseP (zscaleP b (rest.getD (-1 + (rest.length : Int)).toNat 0)) ((rest.length : Int) - (b.length : Int)).toNat)).length < rest.length := by
  have e1 : ((rest.length : Int) - (b.length : Int)).toNat = rest.length - b.length := by omega
  rw [getD_last (xs := rest) (by omega), e1]
  exact ⟨h.step hb (by omega), psRest_length hb (by omega)⟩
end Mine
namespace Mine
noncomputable def psR (xs zs : List Int) : List Int × List Int × Int := psLoop zs (xs.length + 1) xs [] (manyP xs zs)
/-- the pseudo-remainder -/
noncomputable def premP (xs zs : List Int) : List Int := zscaleP (psR xs zs).1 (zs.getLastD 0 ^ (psR xs zs).2.2.toNat)
/-- the pseudo-division stays within the model's sizes -/
structure PremOk (xs zs : List Int) : Prop where
  loop : psOk zs (xs.length + 1) xs []
  left : 0 ≤ (psR xs zs).2.2 ∧ (psR xs zs).2.2 ≤ 1000
  more : Sm (zs.getLastD 0 ^ (psR xs zs).2.2.toNat)
  b : ∀ x ∈ zs, Sm x
  rest : ∀ x ∈ premP xs zs, Sm x
theorem lacking0 {xs zs : List Int} (h : zs.length ≤ xs.length) : ((xs.length : Int) - 1 - ((zs.length : Int) - 1) + 1 - manyP xs zs) = 0 := by
  unfold manyP
  rw [if_pos (by omega)]; omega
theorem psLoop_len (b : List Int) : ∀ (n : Nat) (rest found : List Int) (left : Int), rest.length + 1 ≤ n → 0 < b.length → (psLoop b n rest found left).1.length ≤ rest.length := by
  intro n
  induction n with
  | zero => intro rest found left h; omega
  | succ n ih =>
    intro rest found left h hb
    rw [psLoop]
    by_cases hr : b.length ≤ rest.length
    · rw [if_pos hr]
      have := psRest_length hb hr
      have := ih (psRest b (b.getLastD 0) rest) (psFound b (b.getLastD 0) rest found) (left - 1) (by omega) hb
      omega
    · rw [if_neg hr]; exact Nat.le_refl _
theorem premP_length {xs zs : List Int} (hz : 0 < zs.length) : (premP xs zs).length ≤ xs.length := by
  unfold premP
  refine Nat.le_trans (zscaleP_length_le _ _) ?_
  exact psLoop_len _ _ _ _ _ (Nat.le_refl _) hz
theorem map_mul_pow0 (xs : List Int) (k : Int) : (xs.map fun x => x * k ^ (0 : Int).toNat) = xs := by
  simp
end Mine
namespace Mine
theorem sm_one : Sm 1 := by
  show (1 : Int).natAbs < 2 ^ 100000
  exact Nat.one_lt_two_pow (by decide)
theorem sm_pow0 {x : Int} {k : Int} (h : k = 0) : Sm (x ^ k.toNat) := by
  subst h; rw [show x ^ (0 : Int).toNat = 1 from Int.pow_zero x]; exact sm_one
end Mine
namespace Mine
theorem full_end {xs zs : List Int} (h : zs.length ≤ xs.length) : ((premP xs zs).map fun k => k * zs.getLastD 0 ^ ((xs.length : Int) - 1 - ((zs.length : Int) - 1) + 1 - manyP xs zs).toNat) = premP xs zs := by
  rw [lacking0 h]; simp
end Mine
end
section
namespace Mine
theorem psLoop_lt (b : List Int) : ∀ (n : Nat) (rest found : List Int) (left : Int), rest.length + 1 ≤ n → 0 < b.length → (psLoop b n rest found left).1.length < b.length := by
  intro n
  induction n with
  | zero => intro rest found left h; omega
  | succ n ih =>
    intro rest found left h hb
    rw [psLoop]
    by_cases hr : b.length ≤ rest.length
    · rw [if_pos hr]
      have := psRest_length hb hr
      exact ih _ _ _ (by omega) hb
    · rw [if_neg hr]; simp only; omega
theorem premP_lt {xs zs : List Int} (hz : 0 < zs.length) : (premP xs zs).length < zs.length := by
  unfold premP
  exact Nat.lt_of_le_of_lt (zscaleP_length_le _ _) (psLoop_lt _ _ _ _ _ (Nat.le_refl _) hz)
/-- what one turn of row_resultant makes of b, of h and of the sign -/
noncomputable def rrB (a b : List Int) (g h : Int) : List Int := (premP a b).map fun x => x.fdiv (g * h ^ (a.length - b.length))
noncomputable def rrH (a b : List Int) (h : Int) : Int := if 0 < a.length - b.length then (b.getLastD 0 ^ (a.length - b.length)).fdiv (h ^ (a.length - b.length - 1)) else h
noncomputable def rrS (a b : List Int) (sign : Int) : Int := if (a.length - 1) % 2 = 1 ∧ (b.length - 1) % 2 = 1 then -sign else sign
noncomputable def rrEnd (a b : List Int) (sign h : Int) : Int := if b = [] then 0 else sign * (if 0 < a.length - 1 then (b.getD 0 0 ^ (a.length - 1)).fdiv (h ^ (a.length - 1 - 1)) else 1)
noncomputable def rrLoop : Nat → List Int → List Int → Int → Int → Int → Int
  | 0, a, b, sign, _, h => rrEnd a b sign h
  | n + 1, a, b, sign, g, h => if 1 < b.length then rrLoop n b (rrB a b g h) (rrS a b sign) (b.getLastD 0) (rrH a b h) else rrEnd a b sign h
/-- what a turn asks -/
structure RrTurn (a b : List Int) (g h : Int) : Prop where
  le : b.length ≤ a.length
  len : a.length ≤ 500
  prem : PremOk a b
  smg : Sm g
  smh : Sm h
  hp : Sm (h ^ (a.length - b.length))
  div : DivOk (g * h ^ (a.length - b.length))
  lead : Sm (b.getLastD 0)
  hdiv : 0 < a.length - b.length → DivOk (h ^ (a.length - b.length - 1))
structure RrDone (a b : List Int) (sign h : Int) : Prop where
  pos : 0 < a.length
  len : a.length ≤ 500
  b0 : Sm (b.getD 0 0)
  smh : Sm h
  smsign : Sm sign
  hdiv : 0 < a.length - 1 → DivOk (h ^ (a.length - 1 - 1))
  val : Sm (if 0 < a.length - 1 then (b.getD 0 0 ^ (a.length - 1)).fdiv (h ^ (a.length - 1 - 1)) else 1)
noncomputable def rrOk : Nat → List Int → List Int → Int → Int → Int → Prop
  | 0, _, _, _, _, _ => True
  | n + 1, a, b, sign, g, h => (1 < b.length → RrTurn a b g h ∧ rrOk n b (rrB a b g h) (rrS a b sign) (b.getLastD 0) (rrH a b h)) ∧ (¬ 1 < b.length → b ≠ [] → RrDone a b sign h)
noncomputable def RrInv (V : Int) (a b : List Int) (sign g h : Int) : Prop := ∃ n, b.length + 1 ≤ n ∧ rrLoop n a b sign g h = V ∧ rrOk n a b sign g h ∧ b.length ≤ 500 ∧ a.length ≤ 500
theorem RrInv.turn {V : Int} {a b : List Int} {sign g h : Int} (i : RrInv V a b sign g h) (hb : 1 < b.length) : RrTurn a b g h := by
  obtain ⟨n, hn, _, ho, _⟩ := i
  cases n with
  | zero => omega
  | succ n => exact (ho.1 hb).1
theorem RrInv.done {V : Int} {a b : List Int} {sign g h : Int} (i : RrInv V a b sign g h) (hb : ¬ 1 < b.length) (h0 : b ≠ []) : RrDone a b sign h := by
  obtain ⟨n, hn, _, ho, _⟩ := i
  cases n with
  | zero => omega
  | succ n => exact ho.2 hb h0
theorem RrInv.val {V : Int} {a b : List Int} {sign g h : Int} (i : RrInv V a b sign g h) (hb : ¬ 1 < b.length) : rrEnd a b sign h = V := by
  obtain ⟨n, hn, hl, _, _⟩ := i
  cases n with
  | zero => omega
  | succ n => rw [rrLoop, if_neg hb] at hl; exact hl
theorem RrInv.step {V : Int} {a b : List Int} {sign g h : Int} (i : RrInv V a b sign g h) (hb : 1 < b.length) : RrInv V b (rrB a b g h) (rrS a b sign) (b.getLastD 0) (rrH a b h) ∧ (rrB a b g h).length < b.length := by
  have hl : (rrB a b g h).length < b.length := by
    unfold rrB
    rw [List.length_map]
    exact premP_lt (by omega)
  refine ⟨?_, hl⟩
  obtain ⟨n, hn, hv, ho, h1, h2⟩ := i
  cases n with
  | zero => omega
  | succ n =>
    rw [rrLoop, if_pos hb] at hv
    exact ⟨n, by omega, hv, (ho.1 hb).2, by omega, h1⟩
theorem RrInv.lens {V : Int} {a b : List Int} {sign g h : Int} (i : RrInv V a b sign g h) : a.length ≤ 500 ∧ b.length ≤ 500 := by
  obtain ⟨n, _, _, _, h1, h2⟩ := i
  exact ⟨h2, h1⟩
theorem RrInv.start {a b : List Int} {sign : Int} (h : rrOk (b.length + 1) a b sign 1 1) (ha : a.length ≤ 500) (hb : b.length ≤ 500) : RrInv (rrLoop (b.length + 1) a b sign 1 1) a b sign 1 1 :=
  ⟨b.length + 1, Nat.le_refl _, rfl, h, hb, ha⟩
end Mine
namespace Mine
theorem len_pos_of {xs : List Int} (h : decide (xs = []) = false) : 0 < xs.length := by
  cases xs with
  | nil => simp at h
  | cons _ _ => simp
theorem ne_of_len {xs : List Int} (h : 0 < xs.length) : xs ≠ [] := by
  intro e; subst e; simp at h
theorem gap_eq {m k : Nat} (h : k ≤ m) : ((m : Int) - 1 - ((k : Int) - 1)).toNat = m - k := by omega
theorem RrTurn.hp' {a b : List Int} {g h : Int} (t : RrTurn a b g h) : Sm (h ^ ((a.length : Int) - 1 - ((b.length : Int) - 1)).toNat) := by
  rw [gap_eq t.le]; exact t.hp
theorem RrTurn.div' {a b : List Int} {g h : Int} (t : RrTurn a b g h) : DivOk (g * h ^ ((a.length : Int) - 1 - ((b.length : Int) - 1)).toNat) := by
  rw [gap_eq t.le]; exact t.div
theorem RrTurn.gap0 {a b : List Int} {g h : Int} (t : RrTurn a b g h) : 0 ≤ (a.length : Int) - 1 - ((b.length : Int) - 1) := by
  have := t.le; omega
theorem RrTurn.hdiv' {a b : List Int} {g h : Int} (t : RrTurn a b g h) (h0 : 0 < (a.length : Int) - 1 - ((b.length : Int) - 1)) : DivOk (h ^ ((a.length : Int) - 1 - ((b.length : Int) - 1) - 1).toNat) := by
  have e : ((a.length : Int) - 1 - ((b.length : Int) - 1) - 1).toNat = a.length - b.length - 1 := by omega
  rw [e]; exact t.hdiv (by omega)
theorem RrTurn.next {V : Int} {a b : List Int} {sign g h s' h' : Int} (i : RrInv V a b sign g h) (hb : 0 < (b.length : Int) - 1)
    (hs : s' = rrS a b sign) (hh : h' = rrH a b h) :
    RrInv V b ((premP a b).map fun x => x.fdiv (g * h ^ ((a.length : Int) - 1 - ((b.length : Int) - 1)).toNat)) s' (b.getLastD 0) h' ∧ ((premP a b).map fun x => x.fdiv (g * h ^ ((a.length : Int) - 1 - ((b.length : Int) - 1)).toNat)).length < b.length := by
  have hb' : 1 < b.length := by omega
  have t := i.turn hb'
  rw [gap_eq t.le, hs, hh]
  exact i.step hb'
theorem rrS_odd {a b : List Int} {sign : Int} (h1 : 0 < a.length) (h2 : 0 < b.length) (ha : ((a.length : Int) - 1).fmod 2 = 1) (hb : ((b.length : Int) - 1).fmod 2 = 1) : -sign = rrS a b sign := by
  rw [Int.fmod_eq_emod_of_nonneg _ (by decide)] at ha hb
  unfold rrS
  rw [if_pos (by omega)]
theorem rrS_even1 {a b : List Int} {sign : Int} (ha : ¬ ((a.length : Int) - 1).fmod 2 = 1) (h0 : 0 < a.length) : sign = rrS a b sign := by
  rw [Int.fmod_eq_emod_of_nonneg _ (by decide)] at ha
  unfold rrS
  rw [if_neg (by omega)]
theorem rrS_even2 {a b : List Int} {sign : Int} (hb : ¬ ((b.length : Int) - 1).fmod 2 = 1) (h0 : 0 < b.length) : sign = rrS a b sign := by
  rw [Int.fmod_eq_emod_of_nonneg _ (by decide)] at hb
  unfold rrS
  rw [if_neg (by omega)]
theorem rrH_pos {a b : List Int} {h : Int} (h0 : 0 < (a.length : Int) - 1 - ((b.length : Int) - 1)) (hl : b.length ≤ a.length) :
    (b.getLastD 0 ^ ((a.length : Int) - 1 - ((b.length : Int) - 1)).toNat).fdiv (h ^ ((a.length : Int) - 1 - ((b.length : Int) - 1) - 1).toNat) = rrH a b h := by
  have e : ((a.length : Int) - 1 - ((b.length : Int) - 1) - 1).toNat = a.length - b.length - 1 := by omega
  unfold rrH
  rw [if_pos (by omega), gap_eq hl, e]
theorem rrH_zero {a b : List Int} {h : Int} (h0 : ¬ 0 < (a.length : Int) - 1 - ((b.length : Int) - 1)) : h = rrH a b h := by
  unfold rrH
  rw [if_neg (by omega)]
theorem RrDone.hdiv' {a b : List Int} {sign h : Int} (d : RrDone a b sign h) (h0 : 0 < (a.length : Int) - 1) : DivOk (h ^ ((a.length : Int) - 1 - 1).toNat) := by
  have e : ((a.length : Int) - 1 - 1).toNat = a.length - 1 - 1 := by omega
  rw [e]; exact d.hdiv (by omega)
theorem rrVal {a b : List Int} {h : Int} (h0 : 0 < (a.length : Int) - 1) : (b.getD 0 0 ^ ((a.length : Int) - 1).toNat).fdiv (h ^ ((a.length : Int) - 1 - 1).toNat) = (if 0 < a.length - 1 then (b.getD 0 0 ^ (a.length - 1)).fdiv (h ^ (a.length - 1 - 1)) else 1) := by
  have e : ((a.length : Int) - 1 - 1).toNat = a.length - 1 - 1 := by omega
  have e2 : ((a.length : Int) - 1).toNat = a.length - 1 := by omega
  rw [if_pos (by omega), e, e2]
theorem RrDone.val' {a b : List Int} {sign h : Int} (d : RrDone a b sign h) (h0 : 0 < (a.length : Int) - 1) : Sm ((b.getD 0 0 ^ ((a.length : Int) - 1).toNat).fdiv (h ^ ((a.length : Int) - 1 - 1).toNat)) := by
  rw [rrVal h0]; exact d.val
theorem rr_end0 {V : Int} {a b : List Int} {sign g h : Int} (i : RrInv V a b sign g h) (hb : ¬ 0 < (b.length : Int) - 1) (h0 : decide (b = []) = true) : 0 = V := by
  rw [← i.val (by omega)]
  unfold rrEnd
  rw [if_pos (of_decide_eq_true h0)]
theorem rr_end1 {V : Int} {a b : List Int} {sign g h : Int} (i : RrInv V a b sign g h) (hb : ¬ 0 < (b.length : Int) - 1) (h0 : 0 < b.length) (hm : 0 < (a.length : Int) - 1) : sign * (b.getD 0 0 ^ ((a.length : Int) - 1).toNat).fdiv (h ^ ((a.length : Int) - 1 - 1).toNat) = V := by
  rw [← i.val (by omega)]
  unfold rrEnd
  rw [if_neg (ne_of_len h0), rrVal hm]
theorem rr_end2 {V : Int} {a b : List Int} {sign g h : Int} (i : RrInv V a b sign g h) (hb : ¬ 0 < (b.length : Int) - 1) (h0 : decide (b = []) = false) (hm : ¬ 0 < (a.length : Int) - 1) : sign * 1 = V := by
  rw [← i.val (by omega)]
  unfold rrEnd
  rw [if_neg (ne_of_len (len_pos_of h0)), if_neg (by omega)]
end Mine
namespace Mine
noncomputable def gcdAll (xs : List Int) : Int := xs.foldl (fun g n => (Int.gcd g n : Int)) 0
noncomputable def resP (xs zs : List Int) : Int :=
  gcdAll xs ^ (zs.length - 1) * gcdAll zs ^ (xs.length - 1) * rrLoop (zs.length + 1) (xs.map fun x => x.fdiv (gcdAll xs)) (zs.map fun x => x.fdiv (gcdAll zs)) 1 1 1
structure ResOk (xs zs : List Int) : Prop where
  x0 : 0 < xs.length
  z0 : 0 < zs.length
  le : zs.length ≤ xs.length
  len : xs.length ≤ 500
  one : DivOk (gcdAll xs)
  other : DivOk (gcdAll zs)
  p1 : Sm (gcdAll xs ^ (zs.length - 1))
  p2 : Sm (gcdAll zs ^ (xs.length - 1))
  p3 : Sm (gcdAll xs ^ (zs.length - 1) * gcdAll zs ^ (xs.length - 1))
  rr : rrOk (zs.length + 1) (xs.map fun x => x.fdiv (gcdAll xs)) (zs.map fun x => x.fdiv (gcdAll zs)) 1 1 1
  val : Sm (rrLoop (zs.length + 1) (xs.map fun x => x.fdiv (gcdAll xs)) (zs.map fun x => x.fdiv (gcdAll zs)) 1 1 1)
theorem DivOk.sm {x : Int} (h : DivOk x) : Sm x := h.2.sm (by decide)
theorem deg_nat {k : Nat} (h : 0 < k) : ((k : Int) - 1).toNat = k - 1 := by omega
theorem ResOk.rr' {xs zs : List Int} (o : ResOk xs zs) : rrOk ((zs.map fun x => x.fdiv (gcdAll zs)).length + 1) (xs.map fun x => x.fdiv (gcdAll xs)) (zs.map fun x => x.fdiv (gcdAll zs)) 1 1 1 := by
  rw [List.length_map]; exact o.rr
theorem ResOk.p1' {xs zs : List Int} (o : ResOk xs zs) : Sm (gcdAll xs ^ ((zs.length : Int) - 1).toNat) := by rw [deg_nat o.z0]; exact o.p1
theorem ResOk.p2' {xs zs : List Int} (o : ResOk xs zs) : Sm (gcdAll zs ^ ((xs.length : Int) - 1).toNat) := by rw [deg_nat o.x0]; exact o.p2
theorem ResOk.p3' {xs zs : List Int} (o : ResOk xs zs) : Sm (gcdAll xs ^ ((zs.length : Int) - 1).toNat * gcdAll zs ^ ((xs.length : Int) - 1).toNat) := by rw [deg_nat o.z0, deg_nat o.x0]; exact o.p3
theorem ResOk.val' {xs zs : List Int} (o : ResOk xs zs) : Sm (rrLoop ((zs.map fun x => x.fdiv (gcdAll zs)).length + 1) (xs.map fun x => x.fdiv (gcdAll xs)) (zs.map fun x => x.fdiv (gcdAll zs)) 1 1 1) := by
  rw [List.length_map]; exact o.val
theorem res_end {xs zs : List Int} (o : ResOk xs zs) : gcdAll xs ^ ((zs.length : Int) - 1).toNat * gcdAll zs ^ ((xs.length : Int) - 1).toNat * rrLoop ((zs.map fun x => x.fdiv (gcdAll zs)).length + 1) (xs.map fun x => x.fdiv (gcdAll xs)) (zs.map fun x => x.fdiv (gcdAll zs)) 1 1 1 = resP xs zs := by
  rw [deg_nat o.z0, deg_nat o.x0, List.length_map]; rfl
theorem not_nil_of {xs : List Int} (h : 0 < xs.length) : ¬ decide (xs = []) = true := by
  intro e
  rw [of_decide_eq_true e] at h; simp at h
end Mine
namespace Mine
theorem sm_small {i : Nat} (h : i ≤ 500) : Sm (i : Int) := by
  show ((i : Int)).natAbs < 2 ^ 100000
  have h1 : ((i : Int)).natAbs < 2 ^ 9 := by have : (2 : Nat) ^ 9 = 512 := by decide
                                             omega
  exact Nat.lt_of_lt_of_le h1 (Nat.pow_le_pow_right (by decide) (by decide))
noncomputable def zderiveP (xs : List Int) : List Int := (xs.zipIdx.map fun p => p.1 * (p.2 : Int)).drop 1
end Mine
namespace Mine
noncomputable def zatP (xs : List Int) (k : Int) : Int := xs.reverse.foldl (fun a n => a * k + n) 0
end Mine
end
section
namespace Mine
/-- an entry of a matrix -/
noncomputable def ent (M : List (List Int)) (i j : Nat) : Int := (M.getD i []).getD j 0
noncomputable def pivotFrom (M : List (List Int)) (step : Nat) : Nat → Nat → Option Nat
  | 0, _ => none
  | f + 1, r => if ent M r step ≠ 0 then some r else pivotFrom M step f (r + 1)
/-- the first row from step on whose entry in the column step is not 0 -/
noncomputable def pivotP (M : List (List Int)) (step : Nat) : Option Nat := pivotFrom M step (M.length - step) step
theorem pivotFrom_skip (M : List (List Int)) (step : Nat) : ∀ (j f r : Nat), (∀ i, i < j → ent M (r + i) step = 0) → pivotFrom M step (j + f) r = pivotFrom M step f (r + j) := by
  intro j
  induction j with
  | zero => intro f r _; simp
  | succ j ih =>
    intro f r h
    have h0 := h 0 (by omega)
    rw [show j + 1 + f = (j + f) + 1 by omega, pivotFrom, if_neg (by simpa using h0), ih f (r + 1) (fun i hi => by
      have := h (i + 1) (by omega)
      rw [show r + 1 + i = r + (i + 1) by omega]; exact this)]
    congr 1; omega
theorem pivotP_some {M : List (List Int)} {step j : Nat} (hj : step + j < M.length) (h : ∀ i, i < j → ent M (step + i) step = 0) (hne : ent M (step + j) step ≠ 0) : pivotP M step = some (step + j) := by
  unfold pivotP
  rw [show M.length - step = j + ((M.length - step - j - 1) + 1) by omega, pivotFrom_skip M step j _ step h, pivotFrom, if_pos hne]
theorem pivotP_none {M : List (List Int)} {step j : Nat} (hj : M.length ≤ step + j) (h : ∀ i, i < j → ent M (step + i) step = 0) : pivotP M step = none := by
  unfold pivotP
  have e := pivotFrom_skip M step (M.length - step) 0 step (fun i hi => h i (by omega))
  rw [Nat.add_zero] at e
  rw [e]; rfl
/-- one row of a step: the first j columns behind the step's -/
noncomputable def bInner (prow : List Int) (step : Nat) (lead first ahead : Int) (xs : List Int) : Nat → List Int
  | 0 => xs
  | j + 1 => (bInner prow step lead first ahead xs j).set (step + 1 + j) (((bInner prow step lead first ahead xs j).getD (step + 1 + j) 0 * lead - first * prow.getD (step + 1 + j) 0).fdiv ahead)
theorem bInner_length (prow : List Int) (step : Nat) (lead first ahead : Int) (xs : List Int) (j : Nat) : (bInner prow step lead first ahead xs j).length = xs.length := by
  induction j with
  | zero => rfl
  | succ j ih => rw [bInner, List.length_set, ih]
theorem bInner_ge (prow : List Int) (step : Nat) (lead first ahead : Int) (xs : List Int) (j c : Nat) (hc : step + 1 + j ≤ c) : (bInner prow step lead first ahead xs j).getD c 0 = xs.getD c 0 := by
  induction j with
  | zero => rfl
  | succ j ih =>
    rw [bInner, List.getD_eq_getElem?_getD, List.getElem?_set_ne (by omega), ← List.getD_eq_getElem?_getD]
    exact ih (by omega)
noncomputable def bRow (prow : List Int) (step N : Nat) (lead ahead : Int) (xs : List Int) : List Int := (bInner prow step lead (xs.getD step 0) ahead xs (N - step - 1)).set step 0
theorem bRow_length (prow : List Int) (step N : Nat) (lead ahead : Int) (xs : List Int) : (bRow prow step N lead ahead xs).length = xs.length := by
  unfold bRow
  rw [List.length_set, bInner_length]
/-- the first j rows behind the step's -/
noncomputable def bOuter (M : List (List Int)) (step : Nat) (ahead : Int) : Nat → List (List Int)
  | 0 => M
  | j + 1 => (bOuter M step ahead j).set (step + 1 + j) (bRow (M.getD step []) step M.length (ent M step step) ahead (M.getD (step + 1 + j) []))
theorem bOuter_length (M : List (List Int)) (step : Nat) (ahead : Int) (j : Nat) : (bOuter M step ahead j).length = M.length := by
  induction j with
  | zero => rfl
  | succ j ih => rw [bOuter, List.length_set, ih]
theorem bOuter_out (M : List (List Int)) (step : Nat) (ahead : Int) (j r : Nat) (h : r ≤ step ∨ step + 1 + j ≤ r) : (bOuter M step ahead j).getD r [] = M.getD r [] := by
  induction j with
  | zero => rfl
  | succ j ih =>
    rw [bOuter, List.getD_eq_getElem?_getD, List.getElem?_set_ne (by omega), ← List.getD_eq_getElem?_getD]
    exact ih (by omega)
/-- a step of Bareiss's elimination -/
noncomputable def bareissP (M : List (List Int)) (step : Nat) (ahead : Int) : List (List Int) := bOuter M step ahead (M.length - step - 1)
/-- a square matrix -/
noncomputable def Square (M : List (List Int)) : Prop := ∀ x ∈ M, x.length = M.length
theorem Square.row {M : List (List Int)} (h : Square M) {i : Nat} (hi : i < M.length) : (M.getD i []).length = M.length := by
  rw [List.getD_eq_getElem?_getD, List.getElem?_eq_getElem hi]
  exact h _ (List.getElem_mem _)
theorem bOuter_square {M : List (List Int)} (h : Square M) (step : Nat) (ahead : Int) (j : Nat) (hj : step + 1 + j ≤ M.length) : Square (bOuter M step ahead j) := by
  induction j with
  | zero => exact h
  | succ j ih =>
    have ih' := ih (by omega)
    intro x hx
    rw [bOuter_length]
    rw [bOuter] at hx
    rcases List.mem_or_eq_of_mem_set hx with hx | hx
    · have := ih' x hx
      rw [bOuter_length] at this; exact this
    · rw [hx, bRow_length, h.row (by omega)]
/-- every entry is small enough -/
noncomputable def MSm (M : List (List Int)) : Prop := ∀ x ∈ M, ∀ y ∈ x, Sm y
theorem sm_zero : Sm 0 := Bd.zero
theorem MSm.ent {M : List (List Int)} (h : MSm M) (i j : Nat) : Sm (ent M i j) := by
  unfold Mine.ent
  by_cases hi : i < M.length
  · rw [List.getD_eq_getElem?_getD (l := M), List.getElem?_eq_getElem hi]
    simp only [Option.getD_some]
    by_cases hj : j < M[i].length
    · rw [List.getD_eq_getElem?_getD, List.getElem?_eq_getElem hj]
      exact h _ (List.getElem_mem _) _ (List.getElem_mem _)
    · rw [List.getD_eq_getElem?_getD, List.getElem?_eq_none (by omega)]
      exact sm_zero
  · rw [List.getD_eq_getElem?_getD (l := M), List.getElem?_eq_none (by omega)]
    exact sm_zero
end Mine
namespace Mine
/-- the matrix within the step: j rows done, the next row's first i columns too -/
noncomputable def bMid (M : List (List Int)) (step : Nat) (ahead : Int) (j i : Nat) : List (List Int) :=
  (bOuter M step ahead j).set (step + 1 + j) (bInner (M.getD step []) step (ent M step step) (ent M (step + 1 + j) step) ahead (M.getD (step + 1 + j) []) i)
theorem getD_set_self {M : List (List Int)} {r : Nat} {x : List Int} (h : r < M.length) : (M.set r x).getD r [] = x := by
  rw [List.getD_eq_getElem?_getD, List.getElem?_set_self h]; rfl
theorem getD_set_ne {M : List (List Int)} {r k : Nat} {x : List Int} (h : r ≠ k) : (M.set r x).getD k [] = M.getD k [] := by
  rw [List.getD_eq_getElem?_getD, List.getElem?_set_ne h, ← List.getD_eq_getElem?_getD]
theorem set_getD_self {M : List (List Int)} {r : Nat} (h : r < M.length) : M.set r (M.getD r []) = M := by
  apply List.ext_getElem?
  intro i
  by_cases hi : r = i
  · subst hi
    rw [List.getElem?_set_self h, List.getD_eq_getElem?_getD, List.getElem?_eq_getElem h]; rfl
  · rw [List.getElem?_set_ne hi]
theorem bMid_zero {M : List (List Int)} {step : Nat} {ahead : Int} {j : Nat} (h : step + 1 + j < M.length) : bMid M step ahead j 0 = bOuter M step ahead j := by
  unfold bMid
  rw [show bInner (M.getD step []) step (ent M step step) (ent M (step + 1 + j) step) ahead (M.getD (step + 1 + j) []) 0 = (bOuter M step ahead j).getD (step + 1 + j) [] from (bOuter_out M step ahead j _ (.inr (Nat.le_refl _))).symm]
  exact set_getD_self (by rw [bOuter_length]; exact h)
theorem bMid_row {M : List (List Int)} {step : Nat} {ahead : Int} {j i : Nat} (h : step + 1 + j < M.length) : (bMid M step ahead j i).getD (step + 1 + j) [] = bInner (M.getD step []) step (ent M step step) (ent M (step + 1 + j) step) ahead (M.getD (step + 1 + j) []) i :=
  getD_set_self (by rw [bOuter_length]; exact h)
theorem bMid_step {M : List (List Int)} {step : Nat} {ahead : Int} {j i : Nat} : (bMid M step ahead j i).getD step [] = M.getD step [] := by
  unfold bMid
  rw [getD_set_ne (by omega)]
  exact bOuter_out M step ahead j step (.inl (Nat.le_refl _))
theorem bMid_next {M : List (List Int)} {step : Nat} {ahead : Int} {j i : Nat} (_h : step + 1 + j < M.length) :
    (bMid M step ahead j i).set (step + 1 + j) ((bInner (M.getD step []) step (ent M step step) (ent M (step + 1 + j) step) ahead (M.getD (step + 1 + j) []) i).set (step + 1 + i)
      ((((bInner (M.getD step []) step (ent M step step) (ent M (step + 1 + j) step) ahead (M.getD (step + 1 + j) []) i).getD (step + 1 + i) 0) * ent M step step - ent M (step + 1 + j) step * (M.getD step []).getD (step + 1 + i) 0).fdiv ahead)) = bMid M step ahead j (i + 1) := by
  unfold bMid
  rw [List.set_set]; rfl
theorem bMid_last {M : List (List Int)} {step : Nat} {ahead : Int} {j : Nat} (_h : step + 1 + j < M.length) :
    (bMid M step ahead j (M.length - step - 1)).set (step + 1 + j) ((bInner (M.getD step []) step (ent M step step) (ent M (step + 1 + j) step) ahead (M.getD (step + 1 + j) []) (M.length - step - 1)).set step 0) = bOuter M step ahead (j + 1) := by
  unfold bMid
  rw [List.set_set]; rfl
theorem bMid_square {M : List (List Int)} (h : Square M) {step : Nat} {ahead : Int} {j i : Nat} (hj : step + 1 + j < M.length) : Square (bMid M step ahead j i) := by
  have ho := bOuter_square h step ahead j (by omega)
  intro x hx
  unfold bMid at hx ⊢
  rw [List.length_set, bOuter_length]
  rcases List.mem_or_eq_of_mem_set hx with hx | hx
  · have := ho x hx
    rw [bOuter_length] at this; exact this
  · rw [hx, bInner_length, h.row hj]
end Mine
end
section
namespace Mine
/-- two rows change places -/
noncomputable def swapR {α : Type} (M : List α) (k j : Nat) (d : α) : List α := (M.set k (M.getD j d)).set j (M.getD k d)
theorem swapR_length {α : Type} (M : List α) (k j : Nat) (d : α) : (swapR M k j d).length = M.length := by
  unfold swapR; rw [List.length_set, List.length_set]
theorem swapR_getElem? {α : Type} {M : List α} {k j : Nat} {d : α} (hk : k < M.length) (hj : j < M.length) (i : Nat) : (swapR M k j d)[i]? = if i = j then M[k]? else if i = k then M[j]? else M[i]? := by
  unfold swapR
  by_cases h1 : i = j
  · subst h1
    rw [List.getElem?_set_self (by rw [List.length_set]; exact hj), if_pos rfl, List.getD_eq_getElem?_getD, List.getElem?_eq_getElem hk]; rfl
  · rw [List.getElem?_set_ne (Ne.symm h1), if_neg h1]
    by_cases h2 : i = k
    · subst h2
      rw [List.getElem?_set_self hk, if_pos rfl, List.getD_eq_getElem?_getD, List.getElem?_eq_getElem hj]; rfl
    · rw [List.getElem?_set_ne (Ne.symm h2), if_neg h2]
theorem swapR_map {α β : Type} (f : α → β) (M : List α) (k j : Nat) (d : α) : (swapR M k j d).map f = swapR (M.map f) k j (f d) := by
  unfold swapR
  rw [List.map_set, List.map_set]
  congr 1
  · congr 1
    rw [List.getD_eq_getElem?_getD, List.getD_eq_getElem?_getD, List.getElem?_map]
    cases M[j]? <;> rfl
  · rw [List.getD_eq_getElem?_getD, List.getD_eq_getElem?_getD, List.getElem?_map]
    cases M[k]? <;> rfl
theorem swapR_mem {α : Type} {M : List α} {k j : Nat} {d x : α} (hk : k < M.length) (hj : j < M.length) (h : x ∈ swapR M k j d) : x ∈ M := by
  obtain ⟨i, hi, he⟩ := List.getElem_of_mem h
  have e : (swapR M k j d)[i]? = some x := by rw [List.getElem?_eq_getElem hi, he]
  rw [swapR_getElem? hk hj] at e
  split at e
  · exact List.mem_of_getElem? e
  · split at e
    · exact List.mem_of_getElem? e
    · exact List.mem_of_getElem? e
theorem swapR_square {M : List (List Int)} (h : Square M) {k j : Nat} (hk : k < M.length) (hj : j < M.length) : Square (swapR M k j []) := fun x hx => by
  rw [swapR_length]
  exact h x (swapR_mem hk hj hx)
theorem bareissP_length (M : List (List Int)) (step : Nat) (ahead : Int) : (bareissP M step ahead).length = M.length := bOuter_length _ _ _ _
theorem bareissP_square {M : List (List Int)} (h : Square M) {step : Nat} (hs : step < M.length) (ahead : Int) : Square (bareissP M step ahead) := bOuter_square h step ahead _ (by omega)
/-- the matrix, the sign and the last pivot behind j steps; none where a column has no pivot -/
noncomputable def detState (M : List (List Int)) : Nat → Option (List (List Int) × Int × Int)
  | 0 => some (M, 1, 1)
  | j + 1 => match detState M j with
    | none => none
    | some (M', sign, ahead) => match pivotP M' j with
      | none => none
      | some k => if k ≠ j then some (bareissP (swapR M' k j []) j ahead, -sign, ent (bareissP (swapR M' k j []) j ahead) j j)
        else some (bareissP M' j ahead, sign, ent (bareissP M' j ahead) j j)
noncomputable def detP (M : List (List Int)) : Int := match detState M M.length with
  | none => 0
  | some (_, sign, ahead) => sign * ahead
/-- the numbers met stay small, and no divisor is 0 -/
noncomputable def DetOk (M : List (List Int)) : Prop := ∀ j M' sign ahead, j ≤ M.length → detState M j = some (M', sign, ahead) → MSm M' ∧ DivOk ahead ∧ Sm ahead ∧ Sm sign
theorem detState_none {M : List (List Int)} {j : Nat} (h : detState M j = none) : ∀ i, detState M (j + i) = none := by
  intro i
  induction i with
  | zero => exact h
  | succ i ih => rw [show j + (i + 1) = (j + i) + 1 from rfl, detState, ih]
theorem detP_none {M : List (List Int)} {j : Nat} (h : detState M (j + 1) = none) (hj : j < M.length) : detP M = 0 := by
  have := detState_none h (M.length - (j + 1))
  rw [show j + 1 + (M.length - (j + 1)) = M.length by omega] at this
  unfold detP; rw [this]
theorem detState_miss {M M' : List (List Int)} {j : Nat} {sign ahead : Int} (h : detState M j = some (M', sign, ahead)) (hp : pivotP M' j = none) : detState M (j + 1) = none := by
  rw [detState, h]; simp only [hp]
theorem detState_same {M M' : List (List Int)} {j : Nat} {sign ahead : Int} (h : detState M j = some (M', sign, ahead)) (hp : pivotP M' j = some j) : detState M (j + 1) = some (bareissP M' j ahead, sign, ent (bareissP M' j ahead) j j) := by
  rw [detState, h]; simp [hp]
theorem detState_swap {M M' : List (List Int)} {j k : Nat} {sign ahead : Int} (h : detState M j = some (M', sign, ahead)) (hp : pivotP M' j = some k) (hk : k ≠ j) : detState M (j + 1) = some (bareissP (swapR M' k j []) j ahead, -sign, ent (bareissP (swapR M' k j []) j ahead) j j) := by
  rw [detState, h]; simp [hp, hk]
end Mine
end
section
namespace Mine
/-- every entry has at most b bits -/
noncomputable def MBd (b : Nat) (M : List (List Int)) : Prop := ∀ x ∈ M, ∀ y ∈ x, Bd b y
theorem MBd.mono {b c : Nat} {M : List (List Int)} (h : MBd b M) (hc : b ≤ c) : MBd c M := fun x hx y hy => (h x hx y hy).mono hc
theorem MBd.msm {b : Nat} {M : List (List Int)} (h : MBd b M) (hc : b ≤ 100000) : MSm M := fun x hx y hy => (h x hx y hy).sm hc
theorem bd_getD {b : Nat} {xs : List Int} (h : ∀ y ∈ xs, Bd b y) (k : Nat) : Bd b (xs.getD k 0) := by
  by_cases hk : k < xs.length
  · rw [List.getD_eq_getElem?_getD, List.getElem?_eq_getElem hk]
    exact h _ (List.getElem_mem _)
  · rw [List.getD_eq_getElem?_getD, List.getElem?_eq_none (by omega)]
    exact Bd.zero
theorem MBd.row {b : Nat} {M : List (List Int)} (h : MBd b M) (i : Nat) : ∀ y ∈ M.getD i [], Bd b y := by
  by_cases hk : i < M.length
  · rw [List.getD_eq_getElem?_getD, List.getElem?_eq_getElem hk]
    exact h _ (List.getElem_mem _)
  · rw [List.getD_eq_getElem?_getD, List.getElem?_eq_none (by omega)]
    exact fun _ h => nomatch h
theorem MBd.ent {b : Nat} {M : List (List Int)} (h : MBd b M) (i j : Nat) : Bd b (ent M i j) := bd_getD (h.row i) j
theorem Bd.fdiv {b : Nat} {x y : Int} (h : Bd b x) : Bd b (x.fdiv y) := by
  unfold Bd at *
  refine Nat.lt_of_le_of_lt ?_ h
  by_cases hy : y = 0
  · subst hy; simp
  · exact Int.natAbs_fdiv_le_natAbs x y
theorem bInner_bd {b : Nat} {prow : List Int} {step : Nat} {lead first ahead : Int} {xs : List Int} (hp : ∀ y ∈ prow, Bd b y) (hl : Bd b lead) (hf : Bd b first) (hx : ∀ y ∈ xs, Bd b y) (j : Nat) :
    ∀ y ∈ bInner prow step lead first ahead xs j, Bd (2 * b + 1) y := by
  induction j with
  | zero => exact fun y hy => (hx y hy).mono (by omega)
  | succ j ih =>
    intro y hy
    rw [bInner] at hy
    rcases List.mem_or_eq_of_mem_set hy with hy | hy
    · exact ih y hy
    · rw [hy, bInner_ge _ _ _ _ _ _ _ _ (Nat.le_refl _)]
      refine Bd.fdiv ?_
      have h1 := (bd_getD hx (step + 1 + j)).mul hl
      have h2 := hf.mul (bd_getD hp (step + 1 + j))
      exact (h1.sub h2).mono (by omega)
theorem bOuter_bd {b : Nat} {M : List (List Int)} {step : Nat} {ahead : Int} (h : MBd b M) (j : Nat) : MBd (2 * b + 1) (bOuter M step ahead j) := by
  induction j with
  | zero => exact h.mono (by omega)
  | succ j ih =>
    intro x hx
    rw [bOuter] at hx
    rcases List.mem_or_eq_of_mem_set hx with hx | hx
    · exact ih x hx
    · rw [hx]
      unfold bRow
      intro y hy
      rcases List.mem_or_eq_of_mem_set hy with hy | hy
      · exact bInner_bd (h.row _) (h.ent _ _) (bd_getD (h.row _) _) (h.row _) _ y hy
      · rw [hy]; exact Bd.zero
theorem bareissP_bd {b : Nat} {M : List (List Int)} {step : Nat} {ahead : Int} (h : MBd b M) : MBd (2 * b + 1) (bareissP M step ahead) := bOuter_bd h _
theorem pivotFrom_ne {M : List (List Int)} {step : Nat} : ∀ (f r : Nat) {k : Nat}, pivotFrom M step f r = some k → ent M k step ≠ 0 ∧ r ≤ k ∧ k < r + f := by
  intro f
  induction f with
  | zero => intro r k h; cases h
  | succ f ih =>
    intro r k h
    rw [pivotFrom] at h
    split at h
    · cases h; exact ⟨by assumption, Nat.le_refl _, by omega⟩
    · have := ih (r + 1) h
      exact ⟨this.1, by omega, by omega⟩
theorem pivotP_ne {M : List (List Int)} {step k : Nat} (h : pivotP M step = some k) : ent M k step ≠ 0 ∧ step ≤ k ∧ k < M.length := by
  have := pivotFrom_ne _ _ h
  exact ⟨this.1, this.2.1, by omega⟩
theorem swapR_getD {M : List (List Int)} {k j : Nat} (hk : k < M.length) (hj : j < M.length) : (swapR M k j []).getD j [] = M.getD k [] := by
  rw [List.getD_eq_getElem?_getD, swapR_getElem? hk hj, if_pos rfl, List.getD_eq_getElem?_getD]
theorem bareissP_row {M : List (List Int)} {step : Nat} {ahead : Int} : (bareissP M step ahead).getD step [] = M.getD step [] := bOuter_out _ _ _ _ _ (.inl (Nat.le_refl _))
theorem bareissP_ent {M : List (List Int)} {step j : Nat} {ahead : Int} : ent (bareissP M step ahead) step j = ent M step j := by
  unfold ent; rw [bareissP_row]
/-- the bits behind j steps -/
noncomputable def grow (b : Nat) : Nat → Nat
  | 0 => b
  | j + 1 => 2 * grow b j + 1
theorem detState_ok {M : List (List Int)} {b : Nat} (h : MBd b M) : ∀ (j : Nat) (M' : List (List Int)) (sign ahead : Int), j ≤ M.length → detState M j = some (M', sign, ahead) → M'.length = M.length ∧ MBd (grow b j) M' ∧ ahead ≠ 0 ∧ Bd (grow b j + 1) ahead ∧ (sign = 1 ∨ sign = -1) := by
  intro j
  induction j with
  | zero =>
    intro M' sign ahead _ e
    rw [detState] at e
    cases e
    exact ⟨rfl, h, by decide, by unfold Bd; exact Nat.one_lt_two_pow (by omega), .inl rfl⟩
  | succ j ih =>
    intro M' sign ahead hj e
    rw [detState] at e
    cases hs : detState M j with
    | none => rw [hs] at e; cases e
    | some st =>
      obtain ⟨M₁, sign₁, ahead₁⟩ := st
      rw [hs] at e
      simp only at e
      obtain ⟨hl, hb, h0, ha, hsg⟩ := ih M₁ sign₁ ahead₁ (by omega) hs
      cases hp : pivotP M₁ j with
      | none => rw [hp] at e; cases e
      | some k =>
        rw [hp] at e
        simp only at e
        obtain ⟨hne, hk1, hk2⟩ := pivotP_ne hp
        split at e
        · simp only [Option.some.injEq, Prod.mk.injEq] at e
          obtain ⟨rfl, rfl, rfl⟩ := e
          have hsw : MBd (grow b j) (swapR M₁ k j []) := fun x hx => hb x (swapR_mem hk2 (by omega) hx)
          have hbb : MBd (grow b (j + 1)) (bareissP (swapR M₁ k j []) j ahead₁) := bareissP_bd hsw
          refine ⟨by rw [bareissP_length, swapR_length, hl], hbb, ?_, (hbb.ent _ _).mono (by omega), by omega⟩
          rw [bareissP_ent]
          unfold ent at hne ⊢
          rw [swapR_getD hk2 (by omega)]
          exact hne
        · rename_i hkj
          have hkj : k = j := Decidable.not_not.mp hkj
          subst hkj
          simp only [Option.some.injEq, Prod.mk.injEq] at e
          obtain ⟨rfl, rfl, rfl⟩ := e
          have hbb : MBd (grow b (k + 1)) (bareissP M₁ k ahead₁) := bareissP_bd hb
          refine ⟨by rw [bareissP_length, hl], hbb, ?_, (hbb.ent _ _).mono (by omega), hsg⟩
          rw [bareissP_ent]; exact hne
theorem grow_mono {b : Nat} : ∀ {i j : Nat}, i ≤ j → grow b i ≤ grow b j
  | i, 0, h => by have : i = 0 := by omega
                  subst this; exact Nat.le_refl _
  | i, j + 1, h => by
    by_cases e : i = j + 1
    · rw [e]; exact Nat.le_refl _
    · have := grow_mono (b := b) (show i ≤ j by omega)
      show _ ≤ 2 * grow b j + 1
      omega
theorem detOk_of {M : List (List Int)} {b : Nat} (h : MBd b M) (hg : grow b M.length < 8000) : DetOk M := by
  intro j M' sign ahead hj e
  obtain ⟨_, hb, h0, ha, hs⟩ := detState_ok h j M' sign ahead hj e
  have hm := grow_mono (b := b) hj
  refine ⟨hb.msm (by omega), ⟨h0, ha.mono (by omega)⟩, ha.sm (by omega), ?_⟩
  have h1 : Sm 1 := by
    show (1 : Int).natAbs < 2 ^ 100000
    exact Nat.one_lt_two_pow (by decide)
  rcases hs with rfl | rfl
  · exact h1
  · exact Bd.neg h1
end Mine
end
section
namespace Mine
/-- one turn of the determinant's loop -/
noncomputable def stepD (j : Nat) : Option (List (List Int) × Int × Int) → Option (List (List Int) × Int × Int)
  | none => none
  | some (M', sign, ahead) => match pivotP M' j with
    | none => none
    | some k => if k ≠ j then some (bareissP (swapR M' k j []) j ahead, -sign, ent (bareissP (swapR M' k j []) j ahead) j j)
      else some (bareissP M' j ahead, sign, ent (bareissP M' j ahead) j j)
noncomputable def outD : Option (List (List Int) × Int × Int) → Int
  | none => 0
  | some (_, sign, ahead) => sign * ahead
theorem detState_step (M : List (List Int)) (j : Nat) : detState M (j + 1) = stepD j (detState M j) := by
  rw [detState]; unfold stepD
  cases detState M j with
  | none => rfl
  | some st => rfl
theorem detP_out (M : List (List Int)) : detP M = outD (detState M M.length) := by
  unfold detP outD
  cases detState M M.length with
  | none => rfl
  | some st => rfl
theorem stepD_none (j : Nat) : stepD j none = none := rfl
theorem stepD_miss {M : List (List Int)} {j : Nat} {sign ahead : Int} (h : pivotP M j = none) : stepD j (some (M, sign, ahead)) = none := by
  unfold stepD; simp only [h]
theorem stepD_same {M B : List (List Int)} {j : Nat} {sign ahead v : Int} (h : pivotP M j = some j) (hB : bareissP M j ahead = B) (hv : ent B j j = v) : stepD j (some (M, sign, ahead)) = some (B, sign, v) := by
  unfold stepD; simp [h, hB, hv]
theorem stepD_swap {M M' B : List (List Int)} {j k : Nat} {sign ahead v : Int} (h : pivotP M j = some k) (hk : k ≠ j) (hM : swapR M k j [] = M') (hB : bareissP M' j ahead = B) (hv : ent B j j = v) : stepD j (some (M, sign, ahead)) = some (B, -sign, v) := by
  unfold stepD; simp [h, hk, hM, hB, hv]
theorem pv_hit {M : List (List Int)} {step f r : Nat} (h : ¬ ent M r step = 0) : pivotFrom M step (f + 1) r = some r := if_pos h
theorem pv_miss {M : List (List Int)} {step f r : Nat} {o : Option Nat} (h : ent M r step = 0) (k : pivotFrom M step f (r + 1) = o) : pivotFrom M step (f + 1) r = o := (if_neg fun q => q h).trans k
theorem fdiv_of {x y z : Int} (hz : z ≠ 0) (h : x = z * y) : x.fdiv z = y := by
  rw [h]; exact Int.mul_fdiv_cancel_left y hz
theorem zero_of {x y : Int} (hx : x ≠ 0) (h : x * y = 0) : y = 0 := (Int.mul_eq_zero.mp h).resolve_left hx
noncomputable def det1 (a0 : Int) : Int := a0
theorem det1_b0 (a0 : Int) : bareissP [[a0]] 0 1 = [[a0]] := by
  rfl
set_option maxHeartbeats 4000000 in
theorem det1_s0 (a0 sign : Int) : outD (stepD 0 (some ([[a0]], sign, 1))) = sign * det1 a0 := by
  by_cases h0 : a0 = 0
  rotate_left
  · have hp : pivotP [[a0]] 0 = some 0 := pv_hit (f := 0) h0
    have hB := det1_b0 a0
    rw [stepD_same hp hB rfl]
    rfl
  have hp : pivotP [[a0]] 0 = none := pv_miss (f := 0) h0 (rfl)
  rw [stepD_miss hp]
  show 0 = sign * det1 a0
  unfold det1; simp [h0]
theorem detP_1 (a0 : Int) : detP [[a0]] = det1 a0 := by
  rw [detP_out]
  show outD (detState _ 1) = _
  rw [detState_step, detState]
  exact (det1_s0 a0 1).trans (Int.one_mul _)
noncomputable def det2 (a0 a1 b0 b1 : Int) : Int := (a0 * b1 - a1 * b0)
theorem det2_b1 (a0 a1 b0 b1 : Int) (h : a0 ≠ 0) : bareissP [[a0, a1], [0, (b1 * a0 - b0 * a1)]] 1 a0 = [[a0, a1], [0, (b1 * a0 - b0 * a1)]] := by
  rfl
set_option maxHeartbeats 4000000 in
theorem det2_s1 (a0 a1 b0 b1 sign : Int) (h : a0 ≠ 0) : outD (stepD 1 (some ([[a0, a1], [0, (b1 * a0 - b0 * a1)]], sign, a0))) = sign * det2 a0 a1 b0 b1 := by
  by_cases h1 : (b1 * a0 - b0 * a1) = 0
  rotate_left
  · have hp : pivotP [[a0, a1], [0, (b1 * a0 - b0 * a1)]] 1 = some 1 := pv_hit (f := 0) h1
    have hB := det2_b1 a0 a1 b0 b1 h
    rw [stepD_same hp hB rfl]
    show sign * (b1 * a0 - b0 * a1) = _
    unfold det2; grind
  have hp : pivotP [[a0, a1], [0, (b1 * a0 - b0 * a1)]] 1 = none := pv_miss (f := 0) h1 (rfl)
  rw [stepD_miss hp]
  show 0 = sign * det2 a0 a1 b0 b1
  rw [show det2 a0 a1 b0 b1 = 0 by unfold det2; grind, Int.mul_zero]
theorem det2_b0 (a0 a1 b0 b1 : Int) : bareissP [[a0, a1], [b0, b1]] 0 1 = [[a0, a1], [0, (b1 * a0 - b0 * a1)]] := by
  simp only [bareissP, bOuter, bRow, bInner, ent, List.length_cons, List.length_nil, List.getD_cons_zero, List.getD_cons_succ, List.set_cons_zero, List.set_cons_succ, Nat.reduceAdd, Nat.reduceSub, Int.fdiv_one]
set_option maxHeartbeats 4000000 in
theorem det2_s0 (a0 a1 b0 b1 sign : Int) : outD (stepD 1 (stepD 0 (some ([[a0, a1], [b0, b1]], sign, 1)))) = sign * det2 a0 a1 b0 b1 := by
  by_cases h0 : a0 = 0
  rotate_left
  · have hp : pivotP [[a0, a1], [b0, b1]] 0 = some 0 := pv_hit (f := 1) h0
    have hB := det2_b0 a0 a1 b0 b1
    rw [stepD_same hp hB rfl]
    refine (det2_s1 a0 a1 b0 b1 sign h0).trans ?_
    rfl
  by_cases h1 : b0 = 0
  rotate_left
  · have hp : pivotP [[a0, a1], [b0, b1]] 0 = some 1 := pv_miss (f := 1) h0 (pv_hit (f := 0) h1)
    have hB := det2_b0 b0 b1 a0 a1
    rw [stepD_swap hp (by decide) (M' := [[b0, b1], [a0, a1]]) rfl hB rfl]
    refine (det2_s1 b0 b1 a0 a1 (-sign) h1).trans ?_
    unfold det2; grind
  have hp : pivotP [[a0, a1], [b0, b1]] 0 = none := pv_miss (f := 1) h0 (pv_miss (f := 0) h1 (rfl))
  rw [stepD_miss hp]
  rw [stepD_none]
  show 0 = sign * det2 a0 a1 b0 b1
  unfold det2; simp [h0, h1]
theorem detP_2 (a0 a1 b0 b1 : Int) : detP [[a0, a1], [b0, b1]] = det2 a0 a1 b0 b1 := by
  rw [detP_out]
  show outD (detState _ 2) = _
  rw [detState_step, detState_step, detState]
  exact (det2_s0 a0 a1 b0 b1 1).trans (Int.one_mul _)
noncomputable def det3 (a0 a1 a2 b0 b1 b2 c0 c1 c2 : Int) : Int := (a0 * (b1 * c2 - b2 * c1) - a1 * (b0 * c2 - b2 * c0) + a2 * (b0 * c1 - b1 * c0))
theorem det3_b2 (a0 a1 a2 b0 b1 b2 c0 c1 c2 : Int) (h : (b1 * a0 - b0 * a1) ≠ 0) : bareissP [[a0, a1, a2], [0, (b1 * a0 - b0 * a1), (b2 * a0 - b0 * a2)], [0, 0, (a0 * (b1 * c2 - b2 * c1) - a1 * (b0 * c2 - b2 * c0) + a2 * (b0 * c1 - b1 * c0))]] 2 (b1 * a0 - b0 * a1) = [[a0, a1, a2], [0, (b1 * a0 - b0 * a1), (b2 * a0 - b0 * a2)], [0, 0, (a0 * (b1 * c2 - b2 * c1) - a1 * (b0 * c2 - b2 * c0) + a2 * (b0 * c1 - b1 * c0))]] := by
  rfl
set_option maxHeartbeats 4000000 in
theorem det3_s2 (a0 a1 a2 b0 b1 b2 c0 c1 c2 sign : Int) (h : (b1 * a0 - b0 * a1) ≠ 0) (g : a0 ≠ 0) : outD (stepD 2 (some ([[a0, a1, a2], [0, (b1 * a0 - b0 * a1), (b2 * a0 - b0 * a2)], [0, 0, (a0 * (b1 * c2 - b2 * c1) - a1 * (b0 * c2 - b2 * c0) + a2 * (b0 * c1 - b1 * c0))]], sign, (b1 * a0 - b0 * a1)))) = sign * det3 a0 a1 a2 b0 b1 b2 c0 c1 c2 := by
  by_cases h2 : (a0 * (b1 * c2 - b2 * c1) - a1 * (b0 * c2 - b2 * c0) + a2 * (b0 * c1 - b1 * c0)) = 0
  rotate_left
  · have hp : pivotP [[a0, a1, a2], [0, (b1 * a0 - b0 * a1), (b2 * a0 - b0 * a2)], [0, 0, (a0 * (b1 * c2 - b2 * c1) - a1 * (b0 * c2 - b2 * c0) + a2 * (b0 * c1 - b1 * c0))]] 2 = some 2 := pv_hit (f := 0) h2
    have hB := det3_b2 a0 a1 a2 b0 b1 b2 c0 c1 c2 h
    rw [stepD_same hp hB rfl]
    rfl
  have hp : pivotP [[a0, a1, a2], [0, (b1 * a0 - b0 * a1), (b2 * a0 - b0 * a2)], [0, 0, (a0 * (b1 * c2 - b2 * c1) - a1 * (b0 * c2 - b2 * c0) + a2 * (b0 * c1 - b1 * c0))]] 2 = none := pv_miss (f := 0) h2 (rfl)
  rw [stepD_miss hp]
  show 0 = sign * det3 a0 a1 a2 b0 b1 b2 c0 c1 c2
  rw [show det3 a0 a1 a2 b0 b1 b2 c0 c1 c2 = 0 by unfold det3; grind, Int.mul_zero]
theorem det3_b1 (a0 a1 a2 b0 b1 b2 c0 c1 c2 : Int) (h : a0 ≠ 0) : bareissP [[a0, a1, a2], [0, (b1 * a0 - b0 * a1), (b2 * a0 - b0 * a2)], [0, (c1 * a0 - c0 * a1), (c2 * a0 - c0 * a2)]] 1 a0 = [[a0, a1, a2], [0, (b1 * a0 - b0 * a1), (b2 * a0 - b0 * a2)], [0, 0, (a0 * (b1 * c2 - b2 * c1) - a1 * (b0 * c2 - b2 * c0) + a2 * (b0 * c1 - b1 * c0))]] := by
  simp only [bareissP, bOuter, bRow, bInner, ent, List.length_cons, List.length_nil, List.getD_cons_zero, List.getD_cons_succ, List.set_cons_zero, List.set_cons_succ, Nat.reduceAdd, Nat.reduceSub, Int.fdiv_one]
  rw [fdiv_of (x := (c2 * a0 - c0 * a2) * (b1 * a0 - b0 * a1) - (c1 * a0 - c0 * a1) * (b2 * a0 - b0 * a2)) (y := (a0 * (b1 * c2 - b2 * c1) - a1 * (b0 * c2 - b2 * c0) + a2 * (b0 * c1 - b1 * c0))) h (by grind)]
set_option maxHeartbeats 4000000 in
theorem det3_s1 (a0 a1 a2 b0 b1 b2 c0 c1 c2 sign : Int) (h : a0 ≠ 0) : outD (stepD 2 (stepD 1 (some ([[a0, a1, a2], [0, (b1 * a0 - b0 * a1), (b2 * a0 - b0 * a2)], [0, (c1 * a0 - c0 * a1), (c2 * a0 - c0 * a2)]], sign, a0)))) = sign * det3 a0 a1 a2 b0 b1 b2 c0 c1 c2 := by
  by_cases h1 : (b1 * a0 - b0 * a1) = 0
  rotate_left
  · have hp : pivotP [[a0, a1, a2], [0, (b1 * a0 - b0 * a1), (b2 * a0 - b0 * a2)], [0, (c1 * a0 - c0 * a1), (c2 * a0 - c0 * a2)]] 1 = some 1 := pv_hit (f := 1) h1
    have hB := det3_b1 a0 a1 a2 b0 b1 b2 c0 c1 c2 h
    rw [stepD_same hp hB rfl]
    refine (det3_s2 a0 a1 a2 b0 b1 b2 c0 c1 c2 sign h1 h).trans ?_
    rfl
  by_cases h2 : (c1 * a0 - c0 * a1) = 0
  rotate_left
  · have hp : pivotP [[a0, a1, a2], [0, (b1 * a0 - b0 * a1), (b2 * a0 - b0 * a2)], [0, (c1 * a0 - c0 * a1), (c2 * a0 - c0 * a2)]] 1 = some 2 := pv_miss (f := 1) h1 (pv_hit (f := 0) h2)
    have hB := det3_b1 a0 a1 a2 c0 c1 c2 b0 b1 b2 h
    rw [stepD_swap hp (by decide) (M' := [[a0, a1, a2], [0, (c1 * a0 - c0 * a1), (c2 * a0 - c0 * a2)], [0, (b1 * a0 - b0 * a1), (b2 * a0 - b0 * a2)]]) rfl hB rfl]
    refine (det3_s2 a0 a1 a2 c0 c1 c2 b0 b1 b2 (-sign) h2 h).trans ?_
    unfold det3; grind
  have hp : pivotP [[a0, a1, a2], [0, (b1 * a0 - b0 * a1), (b2 * a0 - b0 * a2)], [0, (c1 * a0 - c0 * a1), (c2 * a0 - c0 * a2)]] 1 = none := pv_miss (f := 1) h1 (pv_miss (f := 0) h2 (rfl))
  rw [stepD_miss hp]
  rw [stepD_none]
  show 0 = sign * det3 a0 a1 a2 b0 b1 b2 c0 c1 c2
  have hz : (a0) * det3 a0 a1 a2 b0 b1 b2 c0 c1 c2 = 0 := by unfold det3; grind
  rw [zero_of h hz, Int.mul_zero]
theorem det3_b0 (a0 a1 a2 b0 b1 b2 c0 c1 c2 : Int) : bareissP [[a0, a1, a2], [b0, b1, b2], [c0, c1, c2]] 0 1 = [[a0, a1, a2], [0, (b1 * a0 - b0 * a1), (b2 * a0 - b0 * a2)], [0, (c1 * a0 - c0 * a1), (c2 * a0 - c0 * a2)]] := by
  simp only [bareissP, bOuter, bRow, bInner, ent, List.length_cons, List.length_nil, List.getD_cons_zero, List.getD_cons_succ, List.set_cons_zero, List.set_cons_succ, Nat.reduceAdd, Nat.reduceSub, Int.fdiv_one]
set_option maxHeartbeats 4000000 in
theorem det3_s0 (a0 a1 a2 b0 b1 b2 c0 c1 c2 sign : Int) : outD (stepD 2 (stepD 1 (stepD 0 (some ([[a0, a1, a2], [b0, b1, b2], [c0, c1, c2]], sign, 1))))) = sign * det3 a0 a1 a2 b0 b1 b2 c0 c1 c2 := by
  by_cases h0 : a0 = 0
  rotate_left
  · have hp : pivotP [[a0, a1, a2], [b0, b1, b2], [c0, c1, c2]] 0 = some 0 := pv_hit (f := 2) h0
    have hB := det3_b0 a0 a1 a2 b0 b1 b2 c0 c1 c2
    rw [stepD_same hp hB rfl]
    refine (det3_s1 a0 a1 a2 b0 b1 b2 c0 c1 c2 sign h0).trans ?_
    rfl
  by_cases h1 : b0 = 0
  rotate_left
  · have hp : pivotP [[a0, a1, a2], [b0, b1, b2], [c0, c1, c2]] 0 = some 1 := pv_miss (f := 2) h0 (pv_hit (f := 1) h1)
    have hB := det3_b0 b0 b1 b2 a0 a1 a2 c0 c1 c2
    rw [stepD_swap hp (by decide) (M' := [[b0, b1, b2], [a0, a1, a2], [c0, c1, c2]]) rfl hB rfl]
    refine (det3_s1 b0 b1 b2 a0 a1 a2 c0 c1 c2 (-sign) h1).trans ?_
    unfold det3; grind
  by_cases h2 : c0 = 0
  rotate_left
  · have hp : pivotP [[a0, a1, a2], [b0, b1, b2], [c0, c1, c2]] 0 = some 2 := pv_miss (f := 2) h0 (pv_miss (f := 1) h1 (pv_hit (f := 0) h2))
    have hB := det3_b0 c0 c1 c2 b0 b1 b2 a0 a1 a2
    rw [stepD_swap hp (by decide) (M' := [[c0, c1, c2], [b0, b1, b2], [a0, a1, a2]]) rfl hB rfl]
    refine (det3_s1 c0 c1 c2 b0 b1 b2 a0 a1 a2 (-sign) h2).trans ?_
    unfold det3; grind
  have hp : pivotP [[a0, a1, a2], [b0, b1, b2], [c0, c1, c2]] 0 = none := pv_miss (f := 2) h0 (pv_miss (f := 1) h1 (pv_miss (f := 0) h2 (rfl)))
  rw [stepD_miss hp]
  rw [stepD_none]
  rw [stepD_none]
  show 0 = sign * det3 a0 a1 a2 b0 b1 b2 c0 c1 c2
  unfold det3; simp [h0, h1, h2]
theorem detP_3 (a0 a1 a2 b0 b1 b2 c0 c1 c2 : Int) : detP [[a0, a1, a2], [b0, b1, b2], [c0, c1, c2]] = det3 a0 a1 a2 b0 b1 b2 c0 c1 c2 := by
  rw [detP_out]
  show outD (detState _ 3) = _
  rw [detState_step, detState_step, detState_step, detState]
  exact (det3_s0 a0 a1 a2 b0 b1 b2 c0 c1 c2 1).trans (Int.one_mul _)
noncomputable def det4 (a0 a1 a2 a3 b0 b1 b2 b3 c0 c1 c2 c3 e0 e1 e2 e3 : Int) : Int := (a0 * (b1 * (c2 * e3 - c3 * e2) - b2 * (c1 * e3 - c3 * e1) + b3 * (c1 * e2 - c2 * e1)) - a1 * (b0 * (c2 * e3 - c3 * e2) - b2 * (c0 * e3 - c3 * e0) + b3 * (c0 * e2 - c2 * e0)) + a2 * (b0 * (c1 * e3 - c3 * e1) - b1 * (c0 * e3 - c3 * e0) + b3 * (c0 * e1 - c1 * e0)) - a3 * (b0 * (c1 * e2 - c2 * e1) - b1 * (c0 * e2 - c2 * e0) + b2 * (c0 * e1 - c1 * e0)))
theorem det4_b3 (a0 a1 a2 a3 b0 b1 b2 b3 c0 c1 c2 c3 e0 e1 e2 e3 : Int) (h : (a0 * (b1 * c2 - b2 * c1) - a1 * (b0 * c2 - b2 * c0) + a2 * (b0 * c1 - b1 * c0)) ≠ 0) : bareissP [[a0, a1, a2, a3], [0, (b1 * a0 - b0 * a1), (b2 * a0 - b0 * a2), (b3 * a0 - b0 * a3)], [0, 0, (a0 * (b1 * c2 - b2 * c1) - a1 * (b0 * c2 - b2 * c0) + a2 * (b0 * c1 - b1 * c0)), (a0 * (b1 * c3 - b3 * c1) - a1 * (b0 * c3 - b3 * c0) + a3 * (b0 * c1 - b1 * c0))], [0, 0, 0, (a0 * (b1 * (c2 * e3 - c3 * e2) - b2 * (c1 * e3 - c3 * e1) + b3 * (c1 * e2 - c2 * e1)) - a1 * (b0 * (c2 * e3 - c3 * e2) - b2 * (c0 * e3 - c3 * e0) + b3 * (c0 * e2 - c2 * e0)) + a2 * (b0 * (c1 * e3 - c3 * e1) - b1 * (c0 * e3 - c3 * e0) + b3 * (c0 * e1 - c1 * e0)) - a3 * (b0 * (c1 * e2 - c2 * e1) - b1 * (c0 * e2 - c2 * e0) + b2 * (c0 * e1 - c1 * e0)))]] 3 (a0 * (b1 * c2 - b2 * c1) - a1 * (b0 * c2 - b2 * c0) + a2 * (b0 * c1 - b1 * c0)) = [[a0, a1, a2, a3], [0, (b1 * a0 - b0 * a1), (b2 * a0 - b0 * a2), (b3 * a0 - b0 * a3)], [0, 0, (a0 * (b1 * c2 - b2 * c1) - a1 * (b0 * c2 - b2 * c0) + a2 * (b0 * c1 - b1 * c0)), (a0 * (b1 * c3 - b3 * c1) - a1 * (b0 * c3 - b3 * c0) + a3 * (b0 * c1 - b1 * c0))], [0, 0, 0, (a0 * (b1 * (c2 * e3 - c3 * e2) - b2 * (c1 * e3 - c3 * e1) + b3 * (c1 * e2 - c2 * e1)) - a1 * (b0 * (c2 * e3 - c3 * e2) - b2 * (c0 * e3 - c3 * e0) + b3 * (c0 * e2 - c2 * e0)) + a2 * (b0 * (c1 * e3 - c3 * e1) - b1 * (c0 * e3 - c3 * e0) + b3 * (c0 * e1 - c1 * e0)) - a3 * (b0 * (c1 * e2 - c2 * e1) - b1 * (c0 * e2 - c2 * e0) + b2 * (c0 * e1 - c1 * e0)))]] := by
  rfl
set_option maxHeartbeats 4000000 in
theorem det4_s3 (a0 a1 a2 a3 b0 b1 b2 b3 c0 c1 c2 c3 e0 e1 e2 e3 sign : Int) (h : (a0 * (b1 * c2 - b2 * c1) - a1 * (b0 * c2 - b2 * c0) + a2 * (b0 * c1 - b1 * c0)) ≠ 0) : outD (stepD 3 (some ([[a0, a1, a2, a3], [0, (b1 * a0 - b0 * a1), (b2 * a0 - b0 * a2), (b3 * a0 - b0 * a3)], [0, 0, (a0 * (b1 * c2 - b2 * c1) - a1 * (b0 * c2 - b2 * c0) + a2 * (b0 * c1 - b1 * c0)), (a0 * (b1 * c3 - b3 * c1) - a1 * (b0 * c3 - b3 * c0) + a3 * (b0 * c1 - b1 * c0))], [0, 0, 0, (a0 * (b1 * (c2 * e3 - c3 * e2) - b2 * (c1 * e3 - c3 * e1) + b3 * (c1 * e2 - c2 * e1)) - a1 * (b0 * (c2 * e3 - c3 * e2) - b2 * (c0 * e3 - c3 * e0) + b3 * (c0 * e2 - c2 * e0)) + a2 * (b0 * (c1 * e3 - c3 * e1) - b1 * (c0 * e3 - c3 * e0) + b3 * (c0 * e1 - c1 * e0)) - a3 * (b0 * (c1 * e2 - c2 * e1) - b1 * (c0 * e2 - c2 * e0) + b2 * (c0 * e1 - c1 * e0)))]], sign, (a0 * (b1 * c2 - b2 * c1) - a1 * (b0 * c2 - b2 * c0) + a2 * (b0 * c1 - b1 * c0))))) = sign * det4 a0 a1 a2 a3 b0 b1 b2 b3 c0 c1 c2 c3 e0 e1 e2 e3 := by
  by_cases h3 : (a0 * (b1 * (c2 * e3 - c3 * e2) - b2 * (c1 * e3 - c3 * e1) + b3 * (c1 * e2 - c2 * e1)) - a1 * (b0 * (c2 * e3 - c3 * e2) - b2 * (c0 * e3 - c3 * e0) + b3 * (c0 * e2 - c2 * e0)) + a2 * (b0 * (c1 * e3 - c3 * e1) - b1 * (c0 * e3 - c3 * e0) + b3 * (c0 * e1 - c1 * e0)) - a3 * (b0 * (c1 * e2 - c2 * e1) - b1 * (c0 * e2 - c2 * e0) + b2 * (c0 * e1 - c1 * e0))) = 0
  rotate_left
  · have hp : pivotP [[a0, a1, a2, a3], [0, (b1 * a0 - b0 * a1), (b2 * a0 - b0 * a2), (b3 * a0 - b0 * a3)], [0, 0, (a0 * (b1 * c2 - b2 * c1) - a1 * (b0 * c2 - b2 * c0) + a2 * (b0 * c1 - b1 * c0)), (a0 * (b1 * c3 - b3 * c1) - a1 * (b0 * c3 - b3 * c0) + a3 * (b0 * c1 - b1 * c0))], [0, 0, 0, (a0 * (b1 * (c2 * e3 - c3 * e2) - b2 * (c1 * e3 - c3 * e1) + b3 * (c1 * e2 - c2 * e1)) - a1 * (b0 * (c2 * e3 - c3 * e2) - b2 * (c0 * e3 - c3 * e0) + b3 * (c0 * e2 - c2 * e0)) + a2 * (b0 * (c1 * e3 - c3 * e1) - b1 * (c0 * e3 - c3 * e0) + b3 * (c0 * e1 - c1 * e0)) - a3 * (b0 * (c1 * e2 - c2 * e1) - b1 * (c0 * e2 - c2 * e0) + b2 * (c0 * e1 - c1 * e0)))]] 3 = some 3 := pv_hit (f := 0) h3
    have hB := det4_b3 a0 a1 a2 a3 b0 b1 b2 b3 c0 c1 c2 c3 e0 e1 e2 e3 h
    rw [stepD_same hp hB rfl]
    rfl
  have hp : pivotP [[a0, a1, a2, a3], [0, (b1 * a0 - b0 * a1), (b2 * a0 - b0 * a2), (b3 * a0 - b0 * a3)], [0, 0, (a0 * (b1 * c2 - b2 * c1) - a1 * (b0 * c2 - b2 * c0) + a2 * (b0 * c1 - b1 * c0)), (a0 * (b1 * c3 - b3 * c1) - a1 * (b0 * c3 - b3 * c0) + a3 * (b0 * c1 - b1 * c0))], [0, 0, 0, (a0 * (b1 * (c2 * e3 - c3 * e2) - b2 * (c1 * e3 - c3 * e1) + b3 * (c1 * e2 - c2 * e1)) - a1 * (b0 * (c2 * e3 - c3 * e2) - b2 * (c0 * e3 - c3 * e0) + b3 * (c0 * e2 - c2 * e0)) + a2 * (b0 * (c1 * e3 - c3 * e1) - b1 * (c0 * e3 - c3 * e0) + b3 * (c0 * e1 - c1 * e0)) - a3 * (b0 * (c1 * e2 - c2 * e1) - b1 * (c0 * e2 - c2 * e0) + b2 * (c0 * e1 - c1 * e0)))]] 3 = none := pv_miss (f := 0) h3 (rfl)
  rw [stepD_miss hp]
  show 0 = sign * det4 a0 a1 a2 a3 b0 b1 b2 b3 c0 c1 c2 c3 e0 e1 e2 e3
  rw [show det4 a0 a1 a2 a3 b0 b1 b2 b3 c0 c1 c2 c3 e0 e1 e2 e3 = 0 by unfold det4; grind, Int.mul_zero]
theorem det4_b2 (a0 a1 a2 a3 b0 b1 b2 b3 c0 c1 c2 c3 e0 e1 e2 e3 : Int) (h : (b1 * a0 - b0 * a1) ≠ 0) : bareissP [[a0, a1, a2, a3], [0, (b1 * a0 - b0 * a1), (b2 * a0 - b0 * a2), (b3 * a0 - b0 * a3)], [0, 0, (a0 * (b1 * c2 - b2 * c1) - a1 * (b0 * c2 - b2 * c0) + a2 * (b0 * c1 - b1 * c0)), (a0 * (b1 * c3 - b3 * c1) - a1 * (b0 * c3 - b3 * c0) + a3 * (b0 * c1 - b1 * c0))], [0, 0, (a0 * (b1 * e2 - b2 * e1) - a1 * (b0 * e2 - b2 * e0) + a2 * (b0 * e1 - b1 * e0)), (a0 * (b1 * e3 - b3 * e1) - a1 * (b0 * e3 - b3 * e0) + a3 * (b0 * e1 - b1 * e0))]] 2 (b1 * a0 - b0 * a1) = [[a0, a1, a2, a3], [0, (b1 * a0 - b0 * a1), (b2 * a0 - b0 * a2), (b3 * a0 - b0 * a3)], [0, 0, (a0 * (b1 * c2 - b2 * c1) - a1 * (b0 * c2 - b2 * c0) + a2 * (b0 * c1 - b1 * c0)), (a0 * (b1 * c3 - b3 * c1) - a1 * (b0 * c3 - b3 * c0) + a3 * (b0 * c1 - b1 * c0))], [0, 0, 0, (a0 * (b1 * (c2 * e3 - c3 * e2) - b2 * (c1 * e3 - c3 * e1) + b3 * (c1 * e2 - c2 * e1)) - a1 * (b0 * (c2 * e3 - c3 * e2) - b2 * (c0 * e3 - c3 * e0) + b3 * (c0 * e2 - c2 * e0)) + a2 * (b0 * (c1 * e3 - c3 * e1) - b1 * (c0 * e3 - c3 * e0) + b3 * (c0 * e1 - c1 * e0)) - a3 * (b0 * (c1 * e2 - c2 * e1) - b1 * (c0 * e2 - c2 * e0) + b2 * (c0 * e1 - c1 * e0)))]] := by
  simp only [bareissP, bOuter, bRow, bInner, ent, List.length_cons, List.length_nil, List.getD_cons_zero, List.getD_cons_succ, List.set_cons_zero, List.set_cons_succ, Nat.reduceAdd, Nat.reduceSub, Int.fdiv_one]
  rw [fdiv_of (x := (a0 * (b1 * e3 - b3 * e1) - a1 * (b0 * e3 - b3 * e0) + a3 * (b0 * e1 - b1 * e0)) * (a0 * (b1 * c2 - b2 * c1) - a1 * (b0 * c2 - b2 * c0) + a2 * (b0 * c1 - b1 * c0)) - (a0 * (b1 * e2 - b2 * e1) - a1 * (b0 * e2 - b2 * e0) + a2 * (b0 * e1 - b1 * e0)) * (a0 * (b1 * c3 - b3 * c1) - a1 * (b0 * c3 - b3 * c0) + a3 * (b0 * c1 - b1 * c0))) (y := (a0 * (b1 * (c2 * e3 - c3 * e2) - b2 * (c1 * e3 - c3 * e1) + b3 * (c1 * e2 - c2 * e1)) - a1 * (b0 * (c2 * e3 - c3 * e2) - b2 * (c0 * e3 - c3 * e0) + b3 * (c0 * e2 - c2 * e0)) + a2 * (b0 * (c1 * e3 - c3 * e1) - b1 * (c0 * e3 - c3 * e0) + b3 * (c0 * e1 - c1 * e0)) - a3 * (b0 * (c1 * e2 - c2 * e1) - b1 * (c0 * e2 - c2 * e0) + b2 * (c0 * e1 - c1 * e0)))) h (by grind)]
set_option maxHeartbeats 4000000 in
theorem det4_s2 (a0 a1 a2 a3 b0 b1 b2 b3 c0 c1 c2 c3 e0 e1 e2 e3 sign : Int) (h : (b1 * a0 - b0 * a1) ≠ 0) (g : a0 ≠ 0) : outD (stepD 3 (stepD 2 (some ([[a0, a1, a2, a3], [0, (b1 * a0 - b0 * a1), (b2 * a0 - b0 * a2), (b3 * a0 - b0 * a3)], [0, 0, (a0 * (b1 * c2 - b2 * c1) - a1 * (b0 * c2 - b2 * c0) + a2 * (b0 * c1 - b1 * c0)), (a0 * (b1 * c3 - b3 * c1) - a1 * (b0 * c3 - b3 * c0) + a3 * (b0 * c1 - b1 * c0))], [0, 0, (a0 * (b1 * e2 - b2 * e1) - a1 * (b0 * e2 - b2 * e0) + a2 * (b0 * e1 - b1 * e0)), (a0 * (b1 * e3 - b3 * e1) - a1 * (b0 * e3 - b3 * e0) + a3 * (b0 * e1 - b1 * e0))]], sign, (b1 * a0 - b0 * a1))))) = sign * det4 a0 a1 a2 a3 b0 b1 b2 b3 c0 c1 c2 c3 e0 e1 e2 e3 := by
  by_cases h2 : (a0 * (b1 * c2 - b2 * c1) - a1 * (b0 * c2 - b2 * c0) + a2 * (b0 * c1 - b1 * c0)) = 0
  rotate_left
  · have hp : pivotP [[a0, a1, a2, a3], [0, (b1 * a0 - b0 * a1), (b2 * a0 - b0 * a2), (b3 * a0 - b0 * a3)], [0, 0, (a0 * (b1 * c2 - b2 * c1) - a1 * (b0 * c2 - b2 * c0) + a2 * (b0 * c1 - b1 * c0)), (a0 * (b1 * c3 - b3 * c1) - a1 * (b0 * c3 - b3 * c0) + a3 * (b0 * c1 - b1 * c0))], [0, 0, (a0 * (b1 * e2 - b2 * e1) - a1 * (b0 * e2 - b2 * e0) + a2 * (b0 * e1 - b1 * e0)), (a0 * (b1 * e3 - b3 * e1) - a1 * (b0 * e3 - b3 * e0) + a3 * (b0 * e1 - b1 * e0))]] 2 = some 2 := pv_hit (f := 1) h2
    have hB := det4_b2 a0 a1 a2 a3 b0 b1 b2 b3 c0 c1 c2 c3 e0 e1 e2 e3 h
    rw [stepD_same hp hB rfl]
    refine (det4_s3 a0 a1 a2 a3 b0 b1 b2 b3 c0 c1 c2 c3 e0 e1 e2 e3 sign h2).trans ?_
    rfl
  by_cases h3 : (a0 * (b1 * e2 - b2 * e1) - a1 * (b0 * e2 - b2 * e0) + a2 * (b0 * e1 - b1 * e0)) = 0
  rotate_left
  · have hp : pivotP [[a0, a1, a2, a3], [0, (b1 * a0 - b0 * a1), (b2 * a0 - b0 * a2), (b3 * a0 - b0 * a3)], [0, 0, (a0 * (b1 * c2 - b2 * c1) - a1 * (b0 * c2 - b2 * c0) + a2 * (b0 * c1 - b1 * c0)), (a0 * (b1 * c3 - b3 * c1) - a1 * (b0 * c3 - b3 * c0) + a3 * (b0 * c1 - b1 * c0))], [0, 0, (a0 * (b1 * e2 - b2 * e1) - a1 * (b0 * e2 - b2 * e0) + a2 * (b0 * e1 - b1 * e0)), (a0 * (b1 * e3 - b3 * e1) - a1 * (b0 * e3 - b3 * e0) + a3 * (b0 * e1 - b1 * e0))]] 2 = some 3 := pv_miss (f := 1) h2 (pv_hit (f := 0) h3)
    have hB := det4_b2 a0 a1 a2 a3 b0 b1 b2 b3 e0 e1 e2 e3 c0 c1 c2 c3 h
    rw [stepD_swap hp (by decide) (M' := [[a0, a1, a2, a3], [0, (b1 * a0 - b0 * a1), (b2 * a0 - b0 * a2), (b3 * a0 - b0 * a3)], [0, 0, (a0 * (b1 * e2 - b2 * e1) - a1 * (b0 * e2 - b2 * e0) + a2 * (b0 * e1 - b1 * e0)), (a0 * (b1 * e3 - b3 * e1) - a1 * (b0 * e3 - b3 * e0) + a3 * (b0 * e1 - b1 * e0))], [0, 0, (a0 * (b1 * c2 - b2 * c1) - a1 * (b0 * c2 - b2 * c0) + a2 * (b0 * c1 - b1 * c0)), (a0 * (b1 * c3 - b3 * c1) - a1 * (b0 * c3 - b3 * c0) + a3 * (b0 * c1 - b1 * c0))]]) rfl hB rfl]
    refine (det4_s3 a0 a1 a2 a3 b0 b1 b2 b3 e0 e1 e2 e3 c0 c1 c2 c3 (-sign) h3).trans ?_
    unfold det4; grind
  have hp : pivotP [[a0, a1, a2, a3], [0, (b1 * a0 - b0 * a1), (b2 * a0 - b0 * a2), (b3 * a0 - b0 * a3)], [0, 0, (a0 * (b1 * c2 - b2 * c1) - a1 * (b0 * c2 - b2 * c0) + a2 * (b0 * c1 - b1 * c0)), (a0 * (b1 * c3 - b3 * c1) - a1 * (b0 * c3 - b3 * c0) + a3 * (b0 * c1 - b1 * c0))], [0, 0, (a0 * (b1 * e2 - b2 * e1) - a1 * (b0 * e2 - b2 * e0) + a2 * (b0 * e1 - b1 * e0)), (a0 * (b1 * e3 - b3 * e1) - a1 * (b0 * e3 - b3 * e0) + a3 * (b0 * e1 - b1 * e0))]] 2 = none := pv_miss (f := 1) h2 (pv_miss (f := 0) h3 (rfl))
  rw [stepD_miss hp]
  rw [stepD_none]
  show 0 = sign * det4 a0 a1 a2 a3 b0 b1 b2 b3 c0 c1 c2 c3 e0 e1 e2 e3
  have hz : (b1 * a0 - b0 * a1) * det4 a0 a1 a2 a3 b0 b1 b2 b3 c0 c1 c2 c3 e0 e1 e2 e3 = 0 := by
    have : (b1 * a0 - b0 * a1) * det4 a0 a1 a2 a3 b0 b1 b2 b3 c0 c1 c2 c3 e0 e1 e2 e3 = (a0 * (b1 * c2 - b2 * c1) - a1 * (b0 * c2 - b2 * c0) + a2 * (b0 * c1 - b1 * c0)) * (a0 * (b1 * e3 - b3 * e1) - a1 * (b0 * e3 - b3 * e0) + a3 * (b0 * e1 - b1 * e0)) - (a0 * (b1 * c3 - b3 * c1) - a1 * (b0 * c3 - b3 * c0) + a3 * (b0 * c1 - b1 * c0)) * (a0 * (b1 * e2 - b2 * e1) - a1 * (b0 * e2 - b2 * e0) + a2 * (b0 * e1 - b1 * e0)) := by unfold det4; grind
    rw [this, h2, h3]; simp
  rw [zero_of h hz, Int.mul_zero]
theorem det4_b1 (a0 a1 a2 a3 b0 b1 b2 b3 c0 c1 c2 c3 e0 e1 e2 e3 : Int) (h : a0 ≠ 0) : bareissP [[a0, a1, a2, a3], [0, (b1 * a0 - b0 * a1), (b2 * a0 - b0 * a2), (b3 * a0 - b0 * a3)], [0, (c1 * a0 - c0 * a1), (c2 * a0 - c0 * a2), (c3 * a0 - c0 * a3)], [0, (e1 * a0 - e0 * a1), (e2 * a0 - e0 * a2), (e3 * a0 - e0 * a3)]] 1 a0 = [[a0, a1, a2, a3], [0, (b1 * a0 - b0 * a1), (b2 * a0 - b0 * a2), (b3 * a0 - b0 * a3)], [0, 0, (a0 * (b1 * c2 - b2 * c1) - a1 * (b0 * c2 - b2 * c0) + a2 * (b0 * c1 - b1 * c0)), (a0 * (b1 * c3 - b3 * c1) - a1 * (b0 * c3 - b3 * c0) + a3 * (b0 * c1 - b1 * c0))], [0, 0, (a0 * (b1 * e2 - b2 * e1) - a1 * (b0 * e2 - b2 * e0) + a2 * (b0 * e1 - b1 * e0)), (a0 * (b1 * e3 - b3 * e1) - a1 * (b0 * e3 - b3 * e0) + a3 * (b0 * e1 - b1 * e0))]] := by
  simp only [bareissP, bOuter, bRow, bInner, ent, List.length_cons, List.length_nil, List.getD_cons_zero, List.getD_cons_succ, List.set_cons_zero, List.set_cons_succ, Nat.reduceAdd, Nat.reduceSub, Int.fdiv_one]
  rw [fdiv_of (x := (c2 * a0 - c0 * a2) * (b1 * a0 - b0 * a1) - (c1 * a0 - c0 * a1) * (b2 * a0 - b0 * a2)) (y := (a0 * (b1 * c2 - b2 * c1) - a1 * (b0 * c2 - b2 * c0) + a2 * (b0 * c1 - b1 * c0))) h (by grind)]
  rw [fdiv_of (x := (c3 * a0 - c0 * a3) * (b1 * a0 - b0 * a1) - (c1 * a0 - c0 * a1) * (b3 * a0 - b0 * a3)) (y := (a0 * (b1 * c3 - b3 * c1) - a1 * (b0 * c3 - b3 * c0) + a3 * (b0 * c1 - b1 * c0))) h (by grind)]
  rw [fdiv_of (x := (e2 * a0 - e0 * a2) * (b1 * a0 - b0 * a1) - (e1 * a0 - e0 * a1) * (b2 * a0 - b0 * a2)) (y := (a0 * (b1 * e2 - b2 * e1) - a1 * (b0 * e2 - b2 * e0) + a2 * (b0 * e1 - b1 * e0))) h (by grind)]
  rw [fdiv_of (x := (e3 * a0 - e0 * a3) * (b1 * a0 - b0 * a1) - (e1 * a0 - e0 * a1) * (b3 * a0 - b0 * a3)) (y := (a0 * (b1 * e3 - b3 * e1) - a1 * (b0 * e3 - b3 * e0) + a3 * (b0 * e1 - b1 * e0))) h (by grind)]
set_option maxHeartbeats 4000000 in
theorem det4_s1 (a0 a1 a2 a3 b0 b1 b2 b3 c0 c1 c2 c3 e0 e1 e2 e3 sign : Int) (h : a0 ≠ 0) : outD (stepD 3 (stepD 2 (stepD 1 (some ([[a0, a1, a2, a3], [0, (b1 * a0 - b0 * a1), (b2 * a0 - b0 * a2), (b3 * a0 - b0 * a3)], [0, (c1 * a0 - c0 * a1), (c2 * a0 - c0 * a2), (c3 * a0 - c0 * a3)], [0, (e1 * a0 - e0 * a1), (e2 * a0 - e0 * a2), (e3 * a0 - e0 * a3)]], sign, a0))))) = sign * det4 a0 a1 a2 a3 b0 b1 b2 b3 c0 c1 c2 c3 e0 e1 e2 e3 := by
  by_cases h1 : (b1 * a0 - b0 * a1) = 0
  rotate_left
  · have hp : pivotP [[a0, a1, a2, a3], [0, (b1 * a0 - b0 * a1), (b2 * a0 - b0 * a2), (b3 * a0 - b0 * a3)], [0, (c1 * a0 - c0 * a1), (c2 * a0 - c0 * a2), (c3 * a0 - c0 * a3)], [0, (e1 * a0 - e0 * a1), (e2 * a0 - e0 * a2), (e3 * a0 - e0 * a3)]] 1 = some 1 := pv_hit (f := 2) h1
    have hB := det4_b1 a0 a1 a2 a3 b0 b1 b2 b3 c0 c1 c2 c3 e0 e1 e2 e3 h
    rw [stepD_same hp hB rfl]
    refine (det4_s2 a0 a1 a2 a3 b0 b1 b2 b3 c0 c1 c2 c3 e0 e1 e2 e3 sign h1 h).trans ?_
    rfl
  by_cases h2 : (c1 * a0 - c0 * a1) = 0
  rotate_left
  · have hp : pivotP [[a0, a1, a2, a3], [0, (b1 * a0 - b0 * a1), (b2 * a0 - b0 * a2), (b3 * a0 - b0 * a3)], [0, (c1 * a0 - c0 * a1), (c2 * a0 - c0 * a2), (c3 * a0 - c0 * a3)], [0, (e1 * a0 - e0 * a1), (e2 * a0 - e0 * a2), (e3 * a0 - e0 * a3)]] 1 = some 2 := pv_miss (f := 2) h1 (pv_hit (f := 1) h2)
    have hB := det4_b1 a0 a1 a2 a3 c0 c1 c2 c3 b0 b1 b2 b3 e0 e1 e2 e3 h
    rw [stepD_swap hp (by decide) (M' := [[a0, a1, a2, a3], [0, (c1 * a0 - c0 * a1), (c2 * a0 - c0 * a2), (c3 * a0 - c0 * a3)], [0, (b1 * a0 - b0 * a1), (b2 * a0 - b0 * a2), (b3 * a0 - b0 * a3)], [0, (e1 * a0 - e0 * a1), (e2 * a0 - e0 * a2), (e3 * a0 - e0 * a3)]]) rfl hB rfl]
    refine (det4_s2 a0 a1 a2 a3 c0 c1 c2 c3 b0 b1 b2 b3 e0 e1 e2 e3 (-sign) h2 h).trans ?_
    unfold det4; grind
  by_cases h3 : (e1 * a0 - e0 * a1) = 0
  rotate_left
  · have hp : pivotP [[a0, a1, a2, a3], [0, (b1 * a0 - b0 * a1), (b2 * a0 - b0 * a2), (b3 * a0 - b0 * a3)], [0, (c1 * a0 - c0 * a1), (c2 * a0 - c0 * a2), (c3 * a0 - c0 * a3)], [0, (e1 * a0 - e0 * a1), (e2 * a0 - e0 * a2), (e3 * a0 - e0 * a3)]] 1 = some 3 := pv_miss (f := 2) h1 (pv_miss (f := 1) h2 (pv_hit (f := 0) h3))
    have hB := det4_b1 a0 a1 a2 a3 e0 e1 e2 e3 c0 c1 c2 c3 b0 b1 b2 b3 h
    rw [stepD_swap hp (by decide) (M' := [[a0, a1, a2, a3], [0, (e1 * a0 - e0 * a1), (e2 * a0 - e0 * a2), (e3 * a0 - e0 * a3)], [0, (c1 * a0 - c0 * a1), (c2 * a0 - c0 * a2), (c3 * a0 - c0 * a3)], [0, (b1 * a0 - b0 * a1), (b2 * a0 - b0 * a2), (b3 * a0 - b0 * a3)]]) rfl hB rfl]
    refine (det4_s2 a0 a1 a2 a3 e0 e1 e2 e3 c0 c1 c2 c3 b0 b1 b2 b3 (-sign) h3 h).trans ?_
    unfold det4; grind
  have hp : pivotP [[a0, a1, a2, a3], [0, (b1 * a0 - b0 * a1), (b2 * a0 - b0 * a2), (b3 * a0 - b0 * a3)], [0, (c1 * a0 - c0 * a1), (c2 * a0 - c0 * a2), (c3 * a0 - c0 * a3)], [0, (e1 * a0 - e0 * a1), (e2 * a0 - e0 * a2), (e3 * a0 - e0 * a3)]] 1 = none := pv_miss (f := 2) h1 (pv_miss (f := 1) h2 (pv_miss (f := 0) h3 (rfl)))
  rw [stepD_miss hp]
  rw [stepD_none]
  rw [stepD_none]
  show 0 = sign * det4 a0 a1 a2 a3 b0 b1 b2 b3 c0 c1 c2 c3 e0 e1 e2 e3
  have hz : (a0 * a0) * det4 a0 a1 a2 a3 b0 b1 b2 b3 c0 c1 c2 c3 e0 e1 e2 e3 = 0 := by unfold det4; grind
  rw [zero_of (Int.mul_ne_zero h h) hz, Int.mul_zero]
theorem det4_b0 (a0 a1 a2 a3 b0 b1 b2 b3 c0 c1 c2 c3 e0 e1 e2 e3 : Int) : bareissP [[a0, a1, a2, a3], [b0, b1, b2, b3], [c0, c1, c2, c3], [e0, e1, e2, e3]] 0 1 = [[a0, a1, a2, a3], [0, (b1 * a0 - b0 * a1), (b2 * a0 - b0 * a2), (b3 * a0 - b0 * a3)], [0, (c1 * a0 - c0 * a1), (c2 * a0 - c0 * a2), (c3 * a0 - c0 * a3)], [0, (e1 * a0 - e0 * a1), (e2 * a0 - e0 * a2), (e3 * a0 - e0 * a3)]] := by
  simp only [bareissP, bOuter, bRow, bInner, ent, List.length_cons, List.length_nil, List.getD_cons_zero, List.getD_cons_succ, List.set_cons_zero, List.set_cons_succ, Nat.reduceAdd, Nat.reduceSub, Int.fdiv_one]
set_option maxHeartbeats 4000000 in
theorem det4_s0 (a0 a1 a2 a3 b0 b1 b2 b3 c0 c1 c2 c3 e0 e1 e2 e3 sign : Int) : outD (stepD 3 (stepD 2 (stepD 1 (stepD 0 (some ([[a0, a1, a2, a3], [b0, b1, b2, b3], [c0, c1, c2, c3], [e0, e1, e2, e3]], sign, 1)))))) = sign * det4 a0 a1 a2 a3 b0 b1 b2 b3 c0 c1 c2 c3 e0 e1 e2 e3 := by
  by_cases h0 : a0 = 0
  rotate_left
  · have hp : pivotP [[a0, a1, a2, a3], [b0, b1, b2, b3], [c0, c1, c2, c3], [e0, e1, e2, e3]] 0 = some 0 := pv_hit (f := 3) h0
    have hB := det4_b0 a0 a1 a2 a3 b0 b1 b2 b3 c0 c1 c2 c3 e0 e1 e2 e3
    rw [stepD_same hp hB rfl]
    refine (det4_s1 a0 a1 a2 a3 b0 b1 b2 b3 c0 c1 c2 c3 e0 e1 e2 e3 sign h0).trans ?_
    rfl
  by_cases h1 : b0 = 0
  rotate_left
  · have hp : pivotP [[a0, a1, a2, a3], [b0, b1, b2, b3], [c0, c1, c2, c3], [e0, e1, e2, e3]] 0 = some 1 := pv_miss (f := 3) h0 (pv_hit (f := 2) h1)
    have hB := det4_b0 b0 b1 b2 b3 a0 a1 a2 a3 c0 c1 c2 c3 e0 e1 e2 e3
    rw [stepD_swap hp (by decide) (M' := [[b0, b1, b2, b3], [a0, a1, a2, a3], [c0, c1, c2, c3], [e0, e1, e2, e3]]) rfl hB rfl]
    refine (det4_s1 b0 b1 b2 b3 a0 a1 a2 a3 c0 c1 c2 c3 e0 e1 e2 e3 (-sign) h1).trans ?_
    unfold det4; grind
  by_cases h2 : c0 = 0
  rotate_left
  · have hp : pivotP [[a0, a1, a2, a3], [b0, b1, b2, b3], [c0, c1, c2, c3], [e0, e1, e2, e3]] 0 = some 2 := pv_miss (f := 3) h0 (pv_miss (f := 2) h1 (pv_hit (f := 1) h2))
    have hB := det4_b0 c0 c1 c2 c3 b0 b1 b2 b3 a0 a1 a2 a3 e0 e1 e2 e3
    rw [stepD_swap hp (by decide) (M' := [[c0, c1, c2, c3], [b0, b1, b2, b3], [a0, a1, a2, a3], [e0, e1, e2, e3]]) rfl hB rfl]
    refine (det4_s1 c0 c1 c2 c3 b0 b1 b2 b3 a0 a1 a2 a3 e0 e1 e2 e3 (-sign) h2).trans ?_
    unfold det4; grind
  by_cases h3 : e0 = 0
  rotate_left
  · have hp : pivotP [[a0, a1, a2, a3], [b0, b1, b2, b3], [c0, c1, c2, c3], [e0, e1, e2, e3]] 0 = some 3 := pv_miss (f := 3) h0 (pv_miss (f := 2) h1 (pv_miss (f := 1) h2 (pv_hit (f := 0) h3)))
    have hB := det4_b0 e0 e1 e2 e3 b0 b1 b2 b3 c0 c1 c2 c3 a0 a1 a2 a3
    rw [stepD_swap hp (by decide) (M' := [[e0, e1, e2, e3], [b0, b1, b2, b3], [c0, c1, c2, c3], [a0, a1, a2, a3]]) rfl hB rfl]
    refine (det4_s1 e0 e1 e2 e3 b0 b1 b2 b3 c0 c1 c2 c3 a0 a1 a2 a3 (-sign) h3).trans ?_
    unfold det4; grind
  have hp : pivotP [[a0, a1, a2, a3], [b0, b1, b2, b3], [c0, c1, c2, c3], [e0, e1, e2, e3]] 0 = none := pv_miss (f := 3) h0 (pv_miss (f := 2) h1 (pv_miss (f := 1) h2 (pv_miss (f := 0) h3 (rfl))))
  rw [stepD_miss hp]
  rw [stepD_none]
  rw [stepD_none]
  rw [stepD_none]
  show 0 = sign * det4 a0 a1 a2 a3 b0 b1 b2 b3 c0 c1 c2 c3 e0 e1 e2 e3
  unfold det4; simp [h0, h1, h2, h3]
theorem detP_4 (a0 a1 a2 a3 b0 b1 b2 b3 c0 c1 c2 c3 e0 e1 e2 e3 : Int) : detP [[a0, a1, a2, a3], [b0, b1, b2, b3], [c0, c1, c2, c3], [e0, e1, e2, e3]] = det4 a0 a1 a2 a3 b0 b1 b2 b3 c0 c1 c2 c3 e0 e1 e2 e3 := by
  rw [detP_out]
  show outD (detState _ 4) = _
  rw [detState_step, detState_step, detState_step, detState_step, detState]
  exact (det4_s0 a0 a1 a2 a3 b0 b1 b2 b3 c0 c1 c2 c3 e0 e1 e2 e3 1).trans (Int.one_mul _)
end Mine
end
section
open PySem PySem.W PyProof.Rows
namespace Mine
/-- a row as the ledger bears it: its values, its ints, its count -/
noncomputable abbrev Cel := List Value × List Int × Nat
noncomputable def MatL : List Addr → List Cel → List (Addr × Obj)
  | a :: as, c :: cs => (a, listOf c.1.toArray c.2.2) :: MatL as cs
  | _, _ => []
noncomputable def CelsOk (cs : List Cel) : Prop := ∀ c ∈ cs, IntsAre c.1 c.2.1
noncomputable def rowsOf (cs : List Cel) : List (List Int) := cs.map (·.2.1)
theorem rowsOf_length (cs : List Cel) : (rowsOf cs).length = cs.length := List.length_map _
theorem rowsOf_set (cs : List Cel) (k : Nat) (c : Cel) : rowsOf (cs.set k c) = (rowsOf cs).set k c.2.1 := by
  unfold rowsOf
  rw [List.map_set]
theorem rowsOf_get {cs : List Cel} {k : Nat} {c : Cel} (h : cs[k]? = some c) : (rowsOf cs).getD k [] = c.2.1 := by
  unfold rowsOf
  rw [List.getD_eq_getElem?_getD, List.getElem?_map, h]; rfl
theorem matL_mem : ∀ {as : List Addr} {cs : List Cel} {k : Nat} {r : Addr} {c : Cel}, as[k]? = some r → cs[k]? = some c → (r, listOf c.1.toArray c.2.2) ∈ MatL as cs
  | a :: as, c' :: cs, 0, r, c, h1, h2 => by
    simp only [List.getElem?_cons_zero, Option.some.injEq] at h1 h2
    subst h1 h2
    exact List.mem_cons_self
  | a :: as, c' :: cs, k + 1, r, c, h1, h2 => by
    simp only [List.getElem?_cons_succ] at h1 h2
    exact List.mem_cons_of_mem _ (matL_mem h1 h2)
  | [], _, _, _, _, h1, _ => by simp at h1
  | _ :: _, [], _, _, _, _, h2 => by simp at h2
theorem matL_fst : ∀ {as : List Addr} {cs : List Cel}, cs.length = as.length → (MatL as cs).map (·.1) = as
  | [], _, _ => rfl
  | a :: as, c :: cs, h => by
    show a :: (MatL as cs).map (·.1) = a :: as
    rw [matL_fst (by simpa using h)]
  | a :: as, [], h => by simp at h
theorem matL_in : ∀ {as : List Addr} {cs : List Cel}, ∀ p ∈ MatL as cs, p.1 ∈ as
  | [], _, _, h => nomatch h
  | a :: as, c :: cs, p, h => by
    rcases List.mem_cons.mp h with rfl | h
    · exact List.mem_cons_self
    · exact List.mem_cons_of_mem _ (matL_in p h)
  | _ :: _, [], _, h => nomatch h
theorem matL_set : ∀ {as : List Addr} {cs : List Cel} {k : Nat} {r : Addr} {c c' : Cel}, as.Nodup → as[k]? = some r → cs[k]? = some c →
    ∃ pre post, MatL as cs = pre ++ (r, listOf c.1.toArray c.2.2) :: post ∧ MatL as (cs.set k c') = pre ++ (r, listOf c'.1.toArray c'.2.2) :: post ∧ (∀ p ∈ pre, p.1 ≠ r) ∧ ∀ p ∈ post, p.1 ≠ r
  | a :: as, d :: cs, 0, r, c, c', hn, h1, h2 => by
    simp only [List.getElem?_cons_zero, Option.some.injEq] at h1 h2
    subst h1 h2
    exact ⟨[], MatL as cs, rfl, rfl, (fun _ h => nomatch h), fun p hp (e : p.1 = a) => (List.nodup_cons.mp hn).1 (e ▸ matL_in p hp)⟩
  | a :: as, d :: cs, k + 1, r, c, c', hn, h1, h2 => by
    simp only [List.getElem?_cons_succ] at h1 h2
    obtain ⟨pre, post, e1, e2, n1, n2⟩ := matL_set (c' := c') (List.nodup_cons.mp hn).2 h1 h2
    refine ⟨(a, listOf d.1.toArray d.2.2) :: pre, post, ?_, ?_, ?_, n2⟩
    · show (a, listOf d.1.toArray d.2.2) :: MatL as cs = _
      rw [e1]; rfl
    · show (a, listOf d.1.toArray d.2.2) :: MatL as (cs.set k c') = _
      rw [e2]; rfl
    · intro p hp
      rcases List.mem_cons.mp hp with rfl | hp
      · exact fun (e : a = r) => (List.nodup_cons.mp hn).1 (by rw [e]; exact List.mem_of_getElem? h1)
      · exact n1 p hp
  | [], _, _, _, _, _, _, h1, _ => by simp at h1
  | _ :: _, [], _, _, _, _, _, _, h2 => by simp at h2
section
variable {prog : Program} {w : World} {A : Around} {E : Value → Shared → Prop} {s : Shared} {h₀ : Heap} {L : Addr} {m : Str → Option Value}
/-- a[k] of a list of rows -/
theorem row_item {value slice : PySem.Expr} {a : Addr} {as : List Addr} {cs : List Cel} {n : Nat} {all : List (Addr × Obj)} {k : Int} {u : Tok} {Q : Value → Shared → Prop} (N : News h₀ L s.heap all) (hA : (a, listOf (as.map Value.ref).toArray n) ∈ all) (hl : cs.length = as.length) (hc : CelsOk cs)
    (h0 : 0 ≤ k) (h1 : k < (as.length : Int)) (hfit : k < 2 ^ 63)
    (h : ∀ (r : Addr) (its : List Value) (xs : List Int) (nn : Nat), as[k.toNat]? = some r → cs[k.toNat]? = some (its, xs, nn) → (r, listOf its.toArray nn) ∈ MatL as cs → IntsAre its xs → xs = (rowsOf cs).getD k.toNat [] → its.length = xs.length → Q (.ref r) s)
    (hs : subscripted slice false (.ref a) (.int k u) = operate [.ref a, .int k u] (getItem (.ref a) (.int k u)) := by with_unfolding_all rfl) :
    wpAny (model prog w) A (subscriptTail value slice (.ref a) (.int k u)) Q E s := by
  have hL : s.heap.IsList a (as.map Value.ref).toArray := ⟨_, (N _ hA).1, rfl, n, rfl⟩
  have hk : k.toNat < as.length := by omega
  have e1 : as[k.toNat]? = some as[k.toNat] := List.getElem?_eq_getElem hk
  have e2 : cs[k.toNat]? = some cs[k.toNat] := List.getElem?_eq_getElem (by omega)
  refine tail_any hL.typeIs slot_list_getitem.lookup (wpAny_getItem_list hL h0 hfit (x := .ref as[k.toNat]) ?_ ?_) hs
  · simp [hk]
  · have hi := hc _ (List.mem_of_getElem? e2)
    exact h _ _ _ _ e1 e2 (matL_mem e1 e2) hi (rowsOf_get e2).symm hi.length
/-- a[k][c] = v -/
theorem row_set {a : Addr} {oA : Obj} {as : List Addr} {cs : List Cel} {rest : List (Addr × Obj)} {k : Nat} {r : Addr} {its : List Value} {xs : List Int} {nn : Nat} {c v : Int} {t u : Tok} {Q : Unit → Shared → Prop} (F : Fr h₀ L s.heap m) (N : News h₀ L s.heap ((a, oA) :: (MatL as cs ++ rest)))
    (hnd : as.Nodup) (ha : a ∉ as) (hr : ∀ p ∈ rest, p.1 ∉ as) (e1 : as[k]? = some r) (e2 : cs[k]? = some (its, xs, nn)) (hi : IntsAre its xs) (h0 : 0 ≤ c) (h1 : c < (xs.length : Int)) (hfit : c < 2 ^ 63)
    (h : ∀ h', Fr h₀ L h' m → News h₀ L h' ((a, oA) :: (MatL as (cs.set k (its.set c.toNat (.int v u), xs.set c.toNat v, nn)) ++ rest)) → Q () { s with heap := h' }) :
    wpAny (model prog w) A (setItem (.ref r) (.int c t) (.int v u)) Q E s := by
  obtain ⟨pre, post, q1, q2, n1, n2⟩ := matL_set (c' := (its.set c.toNat (.int v u), xs.set c.toNat v, nn)) hnd e1 e2
  have hra : r ∈ as := List.mem_of_getElem? e1
  have nw : ∀ l : List (Addr × Obj), (a, oA) :: ((pre ++ l) ++ rest) = ((a, oA) :: pre) ++ (l ++ rest) := fun l => by simp
  rw [q1, nw] at N
  have hl : its.length = xs.length := hi.length
  have z := N (r, listOf its.toArray nn) (List.mem_append_right _ (List.mem_append_left _ List.mem_cons_self))
  have b1 : ∀ p ∈ (a, oA) :: pre, p.1 ≠ r := fun p hp => by
    rcases List.mem_cons.mp hp with rfl | hp
    · exact fun e => ha (by rw [show a = r from e]; exact hra)
    · exact n1 p hp
  have b2 : ∀ p ∈ post ++ rest, p.1 ≠ r := fun p hp => by
    rcases List.mem_append.mp hp with hp | hp
    · exact n2 p hp
    · exact fun e => hr p hp (e ▸ hra)
  refine ki_setAt z.1 h0 hfit (by rw [List.size_toArray]; omega) (h _ (F.change (Heap.SameBut.update ..) z.2.1 z.2.2) ?_)
  rw [q2, nw]
  refine ki_turn _ N b1 b2 ?_ ?_
  · show its.toArray.setIfInBounds c.toNat (.int v u) = (its.set c.toNat (.int v u)).toArray
    apply Array.toList_inj.mp
    simp
  · simp
end
theorem celsOk_set {cs : List Cel} (h : CelsOk cs) {k : Nat} {c : Cel} (hc : IntsAre c.1 c.2.1) : CelsOk (cs.set k c) := fun x hx => by
  rcases List.mem_or_eq_of_mem_set hx with hx | hx
  · exact h x hx
  · rw [hx]; exact hc
end Mine
namespace Mine
theorem row_len {cs : List Cel} {k : Int} {xs : List Int} {as : List Addr} (hsq : Square (rowsOf cs)) (hx : xs = (rowsOf cs).getD k.toNat []) (hl : cs.length = as.length) (h0 : 0 ≤ k) (h1 : k < (as.length : Int)) : xs.length = as.length := by
  rw [hx, hsq.row (by rw [rowsOf_length]; omega), rowsOf_length, hl]
theorem ent_of {cs : List Cel} {k c : Int} {xs : List Int} (hx : xs = (rowsOf cs).getD k.toNat []) : xs.getD c.toNat 0 = ent (rowsOf cs) k.toNat c.toNat := by
  unfold ent; rw [hx]
end Mine
namespace Mine
theorem mat_len {prog : Program} {w : World} {A : Around} {E : Value → Shared → Prop} {s : Shared} {h₀ : Heap} {L : Addr} {a : Addr} {as : List Addr} {n : Nat} {all : List (Addr × Obj)} {Q : Value → Shared → Prop} (N : News h₀ L s.heap all) (hA : (a, listOf (as.map Value.ref).toArray n) ∈ all) (hs : as.length ≤ 500)
    (h : Q (.int (as.length : Int) (s.toks + 1)) { s with toks := s.toks + 1 + 1 }) : wpAny (model prog w) A (call (.builtin "len") [.ref a]) Q E s :=
  kst_len N hA (List.length_map _) (by omega) h
end Mine
namespace Mine
theorem matL_to {as : List Addr} {cs : List Cel} {news : List (Addr × Obj)} {p : Addr × Obj} (h : ∀ q ∈ MatL as cs, q ∈ news) (hm : p ∈ MatL as cs) : p ∈ news := h p hm
end Mine
namespace Mine
theorem pivot_hit {cs : List Cel} {as : List Addr} {step : Nat} {pre : List Int} {k : Int} {xs : List Int} (hlt : pre.length < ((as.length : Int) - (step : Int)).toNat) (hl : cs.length = as.length) (hk : k = (step : Int) + (pre.length : Int)) (hx : xs = (rowsOf cs).getD k.toNat [])
    (hp : ∀ i, i < pre.length → ent (rowsOf cs) (step + i) step = 0) (hne : xs.getD (step : Int).toNat 0 ≠ 0) : (match pivotP (rowsOf cs) step with | some j => k = (j : Int) | none => False) := by
  have e : k.toNat = step + pre.length := by omega
  have h1 : pivotP (rowsOf cs) step = some (step + pre.length) := by
    refine pivotP_some (by rw [rowsOf_length]; omega) hp ?_
    unfold ent
    rw [← e, ← hx]
    simpa using hne
  rw [h1]
  show k = ((step + pre.length : Nat) : Int)
  omega
theorem pivot_miss {cs : List Cel} {step : Nat} {pre : List Int} {k : Int} {xs : List Int} (hk : k = (step : Int) + (pre.length : Int)) (hx : xs = (rowsOf cs).getD k.toNat [])
    (hp : ∀ i, i < pre.length → ent (rowsOf cs) (step + i) step = 0) (h0 : xs.getD (step : Int).toNat 0 = 0) : ∀ i, i < (pre ++ [k]).length → ent (rowsOf cs) (step + i) step = 0 := by
  intro i hi
  rw [List.length_append, List.length_singleton] at hi
  by_cases h : i < pre.length
  · exact hp i h
  · have e : k.toNat = step + i := by omega
    unfold ent
    rw [← e, ← hx]
    simpa using h0
theorem pivot_out {cs : List Cel} {as : List Addr} {step : Nat} (hl : cs.length = as.length) (hp : ∀ i, i < (rangeKs (step : Int) ((as.length : Int) - (step : Int)).toNat).length → ent (rowsOf cs) (step + i) step = 0) : pivotP (rowsOf cs) step = none := by
  rw [rangeKs_length] at hp
  exact pivotP_none (by rw [rowsOf_length]; omega) hp
theorem pivot_end {cs : List Cel} {step : Nat} {k : Int} {t : Tok} (h : match pivotP (rowsOf cs) step with | some j => k = (j : Int) | none => False) : (match pivotP (rowsOf cs) step with | some j => ∃ t', Value.int k t = Value.int (j : Int) t' | none => Value.int k t = .none) := by
  cases e : pivotP (rowsOf cs) step with
  | some j => rw [e] at h; exact ⟨t, by rw [h]⟩
  | none => rw [e] at h; exact h.elim
end Mine
namespace Mine
section
variable {prog : Program} {w : World} {A : Around} {E : Value → Shared → Prop} {s : Shared} {h₀ : Heap} {env : Env} {x : Str} {body : List Stmt} {Q : Flow → Shared → Prop}
inductive MEnd (h₀ : Heap) (L : Addr) (s₁ : Shared) (l : Addr) (oA : Obj) (as : List Addr) (rest own : List (Addr × Obj)) (x : Str) (stored : List Str) (m₀ : Str → Option Value) (P : List Cel → Prop) (s₂ : Shared) : Prop
  | mk (c' : _) (h' : _) (tk : _) (m' : _) (rest2 : _)
    (c0 : s₂ = { s₁ with heap := h', toks := tk })
    (c1 : Fr h₀ L h' m')
    (c2 : News h₀ L h' ((l, oA) :: (MatL as c' ++ rest2)))
    (c3 : (∀ p ∈ rest, p ∈ rest2))
    (c4 : (∀ p ∈ own, p ∈ rest2))
    (c5 : CelsOk c')
    (c6 : c'.length = as.length)
    (c7 : (∀ z, z ≠ x → stored.contains z = false → m' z = m₀ z))
    (c8 : P c') : MEnd h₀ L s₁ l oA as rest own x stored m₀ P s₂
noncomputable def MPost (h₀ : Heap) (L : Addr) (s₁ : Shared) (l : Addr) (oA : Obj) (as : List Addr) (rest own : List (Addr × Obj)) (x : Str) (stored : List Str) (m₀ : Str → Option Value) (P : List Cel → Prop) (Q : Flow → Shared → Prop) (f : Flow) (s₂ : Shared) : Prop :=
  match f with
  | .ret v => Q (.ret v) s₂
  | .brk => Q .next s₂
  | _ => MEnd h₀ L s₁ l oA as rest own x stored m₀ P s₂
theorem mend_intro {L : Addr} {l : Addr} {oA : Obj} {as : List Addr} {rest own rest2 : List (Addr × Obj)} {stored : List Str} {m₀ m' : Str → Option Value} {P : List Cel → Prop} {c' : List Cel} {h' : Heap} {tk : Nat} (F : Fr h₀ L h' m') (N : News h₀ L h' ((l, oA) :: (MatL as c' ++ rest2)))
    (hs : ∀ p ∈ rest, p ∈ rest2) (ho : ∀ p ∈ own, p ∈ rest2) (hc : CelsOk c') (hl : c'.length = as.length) (hz : ∀ z, z ≠ x → stored.contains z = false → m' z = m₀ z) (hp : P c') : MEnd h₀ L s l oA as rest own x stored m₀ P { s with heap := h', toks := tk } :=
  ⟨c', h', tk, m', rest2, rfl, F, N, hs, ho, hc, hl, hz, hp⟩
/-- a for over a range whose turns change the rows of one matrix -/
theorem mat_range {l : Addr} {oA : Obj} {as : List Addr} {rest : List (Addr × Obj)} {r : Addr} {a₀ b₀ : Int} {t₀ u₀ v₀ : Tok} {n : Nat} {m₀ : Str → Option Value} {c₀ : List Cel} (stored : List Str) (P : Nat → List Cel → Prop)
    (hh : A.handled = none) (hr : IsRange s.heap r a₀ b₀ 1 t₀ u₀ v₀) (hsmall : Builtin.Range.small a₀ b₀ 1 = true) (hn : Builtin.Range.rangeSize a₀ b₀ 1 = (n : Int)) (F : Fr h₀ env.locals s.heap m₀) (N : News h₀ env.locals s.heap ((l, oA) :: (MatL as c₀ ++ rest))) (hc : CelsOk c₀) (hl : c₀.length = as.length) (hp : P 0 c₀)
    (turn : ∀ (c : List Cel) (j : Nat) t (u : Str → Option Value) h tk own, j < n → CelsOk c → c.length = as.length → (∀ p ∈ own, p.1 ∉ as) → P j c → Fr h₀ env.locals h (fun y => if y = x then some (.int (a₀ + (j : Int)) t) else if stored.contains y then u y else m₀ y) → News h₀ env.locals h ((l, oA) :: (MatL as c ++ (rest ++ own))) →
      wpAny (model prog w) A (execs body env) (MPost h₀ env.locals { s with heap := h, toks := tk } l oA as rest own x stored m₀ (P (j + 1)) Q) E { s with heap := h, toks := tk })
    (done : ∀ (c : List Cel) (u : Str → Option Value) h tk, CelsOk c → c.length = as.length → P n c → Fr h₀ env.locals h (fun y => if y = x then u y else if stored.contains y then u y else m₀ y) → News h₀ env.locals h ((l, oA) :: (MatL as c ++ rest)) → Q .next { s with heap := h, toks := tk }) :
    wpAny (model prog w) A (pyIter (.ref r)) (fun it s₂ => LoopAtV prog w A h₀ env x body Q E it s₂) E s := by
  refine kst_range (σ := List Cel) (fun c => (l, oA) :: (MatL as c ++ rest)) (fun _ => []) (fun c => CelsOk c ∧ c.length = as.length) stored (fun pre c => P pre.length c) c₀ hh hr hsmall hn F N ⟨hc, hl⟩ (fun _ h => nomatch h) hp ?_ ?_
  · intro c pre k t u h tk own hk hlt hoff hf hp' F' N'
    have adr : ((l, oA) :: (MatL as c₀ ++ rest)).map (·.1) = l :: (as ++ rest.map (·.1)) := by
      rw [List.map_cons, List.map_append, matL_fst hl]
    have hown : ∀ p ∈ own, p.1 ∉ as := fun p hp hm => by
      rw [adr] at hoff
      exact hoff p hp p.1 (List.mem_cons_of_mem _ (List.mem_append_left _ hm)) rfl
    have F₂ : Fr h₀ env.locals h (fun y => if y = x then some (.int (a₀ + (pre.length : Int)) t) else if stored.contains y then u y else m₀ y) := by
      rw [← hk]; exact F'
    have N₂ : News h₀ env.locals h ((l, oA) :: (MatL as c ++ (rest ++ own))) := by
      have e : ((l, oA) :: (MatL as c ++ rest)) ++ own = (l, oA) :: (MatL as c ++ (rest ++ own)) := by simp
      rw [← e]; exact N'
    refine wpAny_mono (turn c pre.length t u h tk own hlt hf.1 hf.2 hown hp' F₂ N₂) (fun f s₂ p => ?_) fun _ _ q => q
    have up : MEnd h₀ env.locals { s with heap := h, toks := tk } l oA as rest own x stored m₀ (P (pre.length + 1)) s₂ →
        InvEndN h₀ env.locals (KstS (fun c => (l, oA) :: (MatL as c ++ rest)) (fun _ => []) (fun c => CelsOk c ∧ c.length = as.length) x stored m₀ (fun pre c => P pre.length c) (pre ++ [k])) own (((l, oA) :: (MatL as c₀ ++ rest)).map (·.1)) { s with heap := h, toks := tk } s₂ := by
      rintro ⟨c', h', tk', m', rest2, rfl, F3, N3, hs, ho, hc', hl', hz, hp3⟩
      refine kst_end c' F3 N3 ?_ ?_ ?_ ⟨hc', hl'⟩ (fun _ h => nomatch h) (fun z h1 _ h3 => hz z h1 h3) ?_
      · intro p hp
        rcases List.mem_cons.mp hp with rfl | hp
        · exact List.mem_cons_self
        · refine List.mem_cons_of_mem _ ?_
          rcases List.mem_append.mp hp with hp | hp
          · exact List.mem_append_left _ hp
          · exact List.mem_append_right _ (hs p hp)
      · intro p hp
        exact List.mem_cons_of_mem _ (List.mem_append_right _ (ho p hp))
      · show ((l, oA) :: (MatL as c' ++ rest)).map (·.1) = _
        rw [adr, List.map_cons, List.map_append, matL_fst hl']
      · rw [List.length_append, List.length_singleton]; exact hp3
    cases f with
    | ret v => exact p
    | brk => exact p
    | next => exact up p
    | cont => exact up p
  · intro c u h tk hf hp' F' N'
    rw [rangeKs_length] at hp'
    exact done c u h tk hf.1 hf.2 hp' F' N'
end
end Mine
namespace Mine
section
variable {cs c c2 : List Cel} {as : List Addr} {step j i : Nat} {ahead : Int} {xs0 xs1 xs2 xs3 xs4 : List Int} {N : Nat}
theorem b_lead (hx0 : xs0 = (rowsOf cs).getD (step : Int).toNat []) : xs0.getD (step : Int).toNat 0 = ent (rowsOf cs) step step := by
  rw [hx0]; rfl
theorem b_first (hj : j < ((as.length : Int) - ((step : Int) + 1)).toNat) (hl : cs.length = as.length) (hpo : rowsOf c = bOuter (rowsOf cs) step ahead j) (hx1 : xs1 = (rowsOf c).getD ((step : Int) + 1 + (j : Int)).toNat []) :
    xs1.getD (step : Int).toNat 0 = ent (rowsOf cs) (step + 1 + j) step := by
  have e : ((step : Int) + 1 + (j : Int)).toNat = step + 1 + j := by omega
  rw [hx1, e, hpo, bOuter_out _ _ _ _ _ (.inr (Nat.le_refl _))]; rfl
theorem b_cur (hj : j < ((as.length : Int) - ((step : Int) + 1)).toNat) (hl : cs.length = as.length) (hp : rowsOf c2 = bMid (rowsOf cs) step ahead j i) (hx2 : xs2 = (rowsOf c2).getD ((step : Int) + 1 + (j : Int)).toNat []) :
    xs2.getD ((step : Int) + 1 + (i : Int)).toNat 0 = ent (rowsOf cs) (step + 1 + j) (step + 1 + i) := by
  have e : ((step : Int) + 1 + (j : Int)).toNat = step + 1 + j := by omega
  have e2 : ((step : Int) + 1 + (i : Int)).toNat = step + 1 + i := by omega
  rw [hx2, e, e2, hp, bMid_row (by rw [rowsOf_length]; omega), bInner_ge _ _ _ _ _ _ _ _ (Nat.le_refl _)]; rfl
theorem b_top (hp : rowsOf c2 = bMid (rowsOf cs) step ahead j i) (hx3 : xs3 = (rowsOf c2).getD (step : Int).toNat []) :
    xs3.getD ((step : Int) + 1 + (i : Int)).toNat 0 = ent (rowsOf cs) step (step + 1 + i) := by
  have e2 : ((step : Int) + 1 + (i : Int)).toNat = step + 1 + i := by omega
  rw [hx3, hp, e2, show (step : Int).toNat = step from Int.toNat_natCast step, bMid_step]; rfl
theorem b_next (hj : j < ((as.length : Int) - ((step : Int) + 1)).toNat) (hl : cs.length = as.length) (hp : rowsOf c2 = bMid (rowsOf cs) step ahead j i) (hpo : rowsOf c = bOuter (rowsOf cs) step ahead j)
    (hx0 : xs0 = (rowsOf cs).getD (step : Int).toNat []) (hx1 : xs1 = (rowsOf c).getD ((step : Int) + 1 + (j : Int)).toNat []) (hx2 : xs2 = (rowsOf c2).getD ((step : Int) + 1 + (j : Int)).toNat []) (hx3 : xs3 = (rowsOf c2).getD (step : Int).toNat []) (hx4 : xs4 = (rowsOf c2).getD ((step : Int) + 1 + (j : Int)).toNat []) (vs : List Value) (nn : Nat) :
    rowsOf (c2.set ((step : Int) + 1 + (j : Int)).toNat (vs, xs4.set ((step : Int) + 1 + (i : Int)).toNat ((xs2.getD ((step : Int) + 1 + (i : Int)).toNat 0 * xs0.getD (step : Int).toNat 0 - xs1.getD (step : Int).toNat 0 * xs3.getD ((step : Int) + 1 + (i : Int)).toNat 0).fdiv ahead), nn)) = bMid (rowsOf cs) step ahead j (i + 1) := by
  have e : ((step : Int) + 1 + (j : Int)).toNat = step + 1 + j := by omega
  have e2 : ((step : Int) + 1 + (i : Int)).toNat = step + 1 + i := by omega
  have hlt : step + 1 + j < (rowsOf cs).length := by rw [rowsOf_length]; omega
  rw [rowsOf_set, b_cur hj hl hp hx2, b_lead hx0, b_first hj hl hpo hx1, b_top hp hx3]
  rw [e] at hx4 ⊢
  show (rowsOf c2).set (step + 1 + j) (xs4.set _ _) = _
  rw [hx4, hp, bMid_row hlt, e2, ← bMid_next hlt, bInner_ge _ _ _ _ _ _ _ _ (Nat.le_refl _)]
  rfl
theorem b_last (hj : j < ((as.length : Int) - ((step : Int) + 1)).toNat) (hl : cs.length = as.length) (hp : rowsOf c2 = bMid (rowsOf cs) step ahead j ((as.length : Int) - ((step : Int) + 1)).toNat) (hx4 : xs4 = (rowsOf c2).getD ((step : Int) + 1 + (j : Int)).toNat []) (vs : List Value) (nn : Nat) :
    rowsOf (c2.set ((step : Int) + 1 + (j : Int)).toNat (vs, xs4.set (step : Int).toNat 0, nn)) = bOuter (rowsOf cs) step ahead (j + 1) := by
  have e : ((step : Int) + 1 + (j : Int)).toNat = step + 1 + j := by omega
  have hlt : step + 1 + j < (rowsOf cs).length := by rw [rowsOf_length]; omega
  have e3 : ((as.length : Int) - ((step : Int) + 1)).toNat = (rowsOf cs).length - step - 1 := by rw [rowsOf_length]; omega
  rw [e3] at hp
  rw [rowsOf_set, e]
  rw [e] at hx4
  show (rowsOf c2).set (step + 1 + j) (xs4.set _ _) = _
  rw [hx4, hp, bMid_row hlt, ← bMid_last hlt]
  rfl
theorem b_start (hj : j < ((as.length : Int) - ((step : Int) + 1)).toNat) (hl : cs.length = as.length) (hpo : rowsOf c = bOuter (rowsOf cs) step ahead j) : rowsOf c = bMid (rowsOf cs) step ahead j 0 := by
  rw [hpo, bMid_zero (by rw [rowsOf_length]; omega)]
theorem b_sqO (hsq : Square (rowsOf cs)) (hl : cs.length = as.length) (hj : j < ((as.length : Int) - ((step : Int) + 1)).toNat) (hpo : rowsOf c = bOuter (rowsOf cs) step ahead j) : Square (rowsOf c) := by
  rw [hpo]; exact bOuter_square hsq _ _ _ (by rw [rowsOf_length]; omega)
theorem b_sqM (hsq : Square (rowsOf cs)) (hl : cs.length = as.length) (hj : j < ((as.length : Int) - ((step : Int) + 1)).toNat) (hp : rowsOf c2 = bMid (rowsOf cs) step ahead j i) : Square (rowsOf c2) := by
  rw [hp]; exact bMid_square hsq (by rw [rowsOf_length]; omega)
theorem b_done (hl : cs.length = as.length) (hp : rowsOf c = bOuter (rowsOf cs) step ahead ((as.length : Int) - ((step : Int) + 1)).toNat) : rowsOf c = bareissP (rowsOf cs) step ahead := by
  rw [hp]
  unfold bareissP
  rw [rowsOf_length, hl]
  congr 1; omega
end
theorem not_in_append {as : List Addr} {rest own : List (Addr × Obj)} (h1 : ∀ p ∈ rest, p.1 ∉ as) (h2 : ∀ p ∈ own, p.1 ∉ as) : ∀ p ∈ rest ++ own, p.1 ∉ as := fun p hp => (List.mem_append.mp hp).elim (h1 p) (h2 p)
end Mine
namespace Mine
theorem sm_eq {a b : Int} (e : a = b) (h : Sm b) : Sm a := e ▸ h
end Mine
end
section
open PySem PySem.W PyProof.Rows
namespace Mine
theorem matL_snoc : ∀ {as : List Addr} {cs : List Cel} {a : Addr} {c : Cel}, as.length = cs.length → MatL (as ++ [a]) (cs ++ [c]) = MatL as cs ++ [(a, listOf c.1.toArray c.2.2)]
  | [], [], _, _, _ => rfl
  | _ :: as, _ :: cs, a, c, h => by
    show _ :: MatL (as ++ [a]) (cs ++ [c]) = _ :: (MatL as cs ++ _)
    rw [matL_snoc (by simpa using h)]
  | [], _ :: _, _, _, h => by simp at h
  | _ :: _, [], _, _, h => by simp at h
section
variable {prog : Program} {w : World} {A : Around} {h₀ : Heap} {L : Addr} {m : Str → Option Value} {env : Env} {ct elt : PySem.Expr} {x : Str} {scope : Scope} {cl : List (Str × Addr)} {s : Shared} {S : List (Addr × Obj) → Prop} {P : Nat → Value → Prop} {Fin : List Value → List (Addr × Obj) → Prop} {news : List (Addr × Obj)}
/-- a comprehension whose test is false at every turn -/
theorem comp_noneT {n : Nat}
    (turn : ∀ i v I oI C oC D m₂ h tk (E' : Value → Shared → Prop), i < n → P i v → LCg.NsObj oC m₂ → m₂ x = some v → Fr h₀ L h m → News h₀ L h ((I, oI) :: (C, oC) :: (D, LCg.lst []) :: news) → LCg.Off3 I C D news → ((@Ne Nat I C) ∧ (@Ne Nat I D) ∧ (@Ne Nat C D)) →
      wpAny (model prog w) A (isTrue ct (compEnvC scope cl C env) (eval ct (compEnvC scope cl C env))) (fun b s' => b = false ∧ LCg.CompEnd h₀ L m { s with heap := h, toks := tk } I oI C oC D (LCg.lst []) S (fun _ news' => news' = news) Value.none s') E' { s with heap := h, toks := tk })
    (fin : Fin [] news) : LCt.CompRestT prog w A h₀ L m env ct elt x scope cl s S P Fin n 0 [] news := by
  have key : ∀ (j i : Nat), i + j = n → LCt.CompRestT prog w A h₀ L m env ct elt x scope cl s S P Fin j i [] news := by
    intro j
    induction j with
    | zero => intro i _; exact LCt.CompRestT.zero fin
    | succ j ih =>
      intro i hi
      refine LCt.CompRestT.succ ?_
      intro v I oI C oC D m₂ h tk E' hv hC hx F N off ne
      refine wpAny_mono (turn i v I oI C oC D m₂ h tk E' (by omega) hv hC hx F N off ne) (fun b s₂ hq => ?_) fun _ _ e => e
      obtain ⟨rfl, h', tk', nw, e, F', N', off', hS, hn⟩ := hq
      simp only [Bool.false_eq_true, if_false]
      rw [hn] at N' off' hS
      exact ⟨h', tk', news, e, F', N', off', hS, ih (i + 1) (by omega)⟩
  exact key n 0 (by omega)
/-- a comprehension over a list of refs to rows, whose test is false at every turn -/
theorem comp_none_rows {as : List Addr} {cs : List Cel} {N : Nat} (hl : cs.length = as.length) (hc : CelsOk cs) (hq : ∀ x ∈ rowsOf cs, x.length = N)
    (turn : ∀ r its (xs : List Int) (nn : Nat) I oI C oC D m₂ h tk (E' : Value → Shared → Prop), (r, listOf its.toArray nn) ∈ MatL as cs → IntsAre its xs → xs.length = N → its.length = N → LCg.NsObj oC m₂ → m₂ x = some (.ref r) → Fr h₀ L h m → News h₀ L h ((I, oI) :: (C, oC) :: (D, LCg.lst []) :: news) → LCg.Off3 I C D news → ((@Ne Nat I C) ∧ (@Ne Nat I D) ∧ (@Ne Nat C D)) →
      wpAny (model prog w) A (isTrue ct (compEnvC scope cl C env) (eval ct (compEnvC scope cl C env))) (fun b s' => b = false ∧ LCg.CompEnd h₀ L m { s with heap := h, toks := tk } I oI C oC D (LCg.lst []) S (fun _ news' => news' = news) Value.none s') E' { s with heap := h, toks := tk })
    (fin : Fin [] news) : LCt.CompRestT prog w A h₀ L m env ct elt x scope cl s S (fun i v => (as.map Value.ref).toArray[i]? = some v) Fin (as.map Value.ref).toArray.size 0 [] news := by
  refine comp_noneT (fun i v I oI C oC D m₂ h tk E' hi hv hC hx F N' off ne => ?_) fin
  have hia : i < as.length := by simpa using hi
  have e1 : as[i]? = some as[i] := List.getElem?_eq_getElem hia
  have e2 : cs[i]? = some cs[i] := List.getElem?_eq_getElem (by omega)
  have hv' : v = .ref as[i] := by
    simp only [List.getElem?_toArray, List.getElem?_map, e1, Option.map_some, Option.some.injEq] at hv
    exact hv.symm
  rw [hv'] at hx
  have hm2 : cs[i] ∈ cs := List.mem_of_getElem? e2
  have hn : cs[i].2.1.length = N := hq _ (List.mem_map_of_mem hm2)
  exact turn _ _ _ _ I oI C oC D m₂ h tk E' (matL_mem e1 e2) (hc _ hm2) hn ((hc _ hm2).length.trans hn) hC hx F N' off ne
/-- a comprehension over a list of refs, each turn of which makes a copy of the row -/
theorem comp_rows {as : List Addr} {cs : List Cel} (hl : cs.length = as.length)
    (turn : ∀ (i : Nat) (r : Addr) (c : Cel) I oI C oC D m₂ ys bs ds h tk (E' : Value → Shared → Prop), as[i]? = some r → cs[i]? = some c → LCg.NsObj oC m₂ → m₂ x = some (.ref r) → Fr h₀ L h m → News h₀ L h ((I, oI) :: (C, oC) :: (D, LCg.lst ys) :: (MatL bs ds ++ news)) → LCg.Off3 I C D (MatL bs ds ++ news) → ((@Ne Nat I C) ∧ (@Ne Nat I D) ∧ (@Ne Nat C D)) →
      wpAny (model prog w) A (eval elt (compEnvC scope cl C env)) (LCg.CompEnd h₀ L m { s with heap := h, toks := tk } I oI C oC D (LCg.lst ys) S (fun y news' => ∃ (b : Addr) (c' : Cel), y = .ref b ∧ (∀ p ∈ MatL bs ds ++ news, p.1 ≠ b) ∧ c'.2.1 = c.2.1 ∧ IntsAre c'.1 c'.2.1 ∧ news' = (b, listOf c'.1.toArray c'.2.2) :: (MatL bs ds ++ news))) E' { s with heap := h, toks := tk })
    (hS : ∀ a b, (∀ p ∈ a, p ∈ b) → S a → S b)
    (fin : ∀ bs ds, bs.length = as.length → ds.length = as.length → bs.Nodup → (∀ p ∈ news, p.1 ∉ bs) → CelsOk ds → rowsOf ds = rowsOf cs → Fin (bs.map Value.ref) (MatL bs ds ++ news)) : LCg.CompRest prog w A h₀ L m env elt x scope cl s S (fun i v => (as.map Value.ref).toArray[i]? = some v) Fin (as.map Value.ref).toArray.size 0 [] news := by
  rw [show (as.map Value.ref).toArray.size = as.length by simp]
  have key : ∀ (j i : Nat) (bs : List Addr) (ds : List Cel), i + j = as.length → bs.length = i → ds.length = i → bs.Nodup → (∀ p ∈ news, p.1 ∉ bs) → CelsOk ds → rowsOf ds = (rowsOf cs).take i →
      LCg.CompRest prog w A h₀ L m env elt x scope cl s S (fun i v => (as.map Value.ref).toArray[i]? = some v) Fin j i (bs.map Value.ref) (MatL bs ds ++ news) := by
    intro j
    induction j with
    | zero =>
      intro i bs ds hi hb hd hn ho hc hr
      refine LCg.CompRest.zero (fin bs ds (by omega) (by omega) hn ho hc ?_)
      rw [hr, List.take_of_length_le (by rw [rowsOf_length]; omega)]
    | succ j ih =>
      intro i bs ds hi hb hd hn ho hc hr
      refine LCg.CompRest.succ ?_
      intro v I oI C oC D m₂ h tk E' hv hC hx F N off ne
      have hia : i < as.length := by omega
      have e1 : as[i]? = some as[i] := List.getElem?_eq_getElem hia
      have e2 : cs[i]? = some cs[i] := List.getElem?_eq_getElem (by omega)
      have hv' : v = .ref as[i] := by
        simp only [List.getElem?_toArray, List.getElem?_map, e1, Option.map_some, Option.some.injEq] at hv
        exact hv.symm
      rw [hv'] at hx
      refine wpAny_mono (turn i as[i] cs[i] I oI C oC D m₂ _ bs ds h tk E' e1 e2 hC hx F N off ne) (fun y s₂ hq => ?_) fun _ _ e => e
      obtain ⟨h', tk', nw, e, F', N', off', hS', b, c', hy, hb', hc', hci, hn'⟩ := hq
      have sub : ∀ p ∈ MatL (bs ++ [b]) (ds ++ [c']) ++ news, p ∈ nw := fun p hp => by
        rw [matL_snoc (by omega)] at hp
        rw [hn']
        simp only [List.mem_append, List.mem_cons, List.not_mem_nil, or_false] at hp ⊢
        rcases hp with (hp | hp) | hp
        · exact .inr (.inl hp)
        · exact .inl hp
        · exact .inr (.inr hp)
      have sub2 : ∀ p ∈ nw, p ∈ MatL (bs ++ [b]) (ds ++ [c']) ++ news := fun p hp => by
        rw [matL_snoc (by omega)]
        rw [hn'] at hp
        simp only [List.mem_append, List.mem_cons, List.not_mem_nil, or_false] at hp ⊢
        rcases hp with hp | hp | hp
        · exact .inl (.inr hp)
        · exact .inl (.inl hp)
        · exact .inr hp
      have nb : b ∉ bs := fun hm => by
        obtain ⟨k, hk, he⟩ := List.getElem_of_mem hm
        have : (b, listOf (ds[k]'(by omega)).1.toArray (ds[k]'(by omega)).2.2) ∈ MatL bs ds := matL_mem (k := k) (by rw [List.getElem?_eq_getElem hk, he]) (List.getElem?_eq_getElem (by omega))
        exact hb' _ (List.mem_append_left _ this) rfl
      refine ⟨h', tk', MatL (bs ++ [b]) (ds ++ [c']) ++ news, e, F', fun p hp => N' p ?_, LCg.Off3.of fun p hp => off'.mem p (sub p hp), hS _ _ sub2 hS', ?_⟩
      · simp only [List.mem_cons] at hp ⊢
        rcases hp with hp | hp | hp | hp
        · exact .inl hp
        · exact .inr (.inl hp)
        · exact .inr (.inr (.inl hp))
        · exact .inr (.inr (.inr (sub p hp)))
      · have em : bs.map Value.ref ++ [y] = (bs ++ [b]).map Value.ref := by rw [hy, List.map_append]; rfl
        show LCg.CompRest prog w A h₀ L m env elt x scope cl s S _ Fin j (i + 1) (bs.map Value.ref ++ [y]) _
        rw [em]
        refine ih (i + 1) (bs ++ [b]) (ds ++ [c']) (by omega) (by rw [List.length_append, hb]; rfl) (by rw [List.length_append, hd]; rfl) ?_ ?_ ?_ ?_
        · exact List.nodup_append.mpr ⟨hn, List.nodup_cons.mpr ⟨List.not_mem_nil, List.nodup_nil⟩, fun p hp q hq => by
            rw [List.mem_singleton] at hq; rw [hq]; exact fun e => nb (e ▸ hp)⟩
        · intro p hp hm
          rcases List.mem_append.mp hm with hm | hm
          · exact ho p hp hm
          · exact hb' p (List.mem_append_right _ hp) (List.mem_singleton.mp hm)
        · intro c hcm
          rcases List.mem_append.mp hcm with hcm | hcm
          · exact hc c hcm
          · rw [List.mem_singleton.mp hcm]; exact hci
        · unfold rowsOf at hr ⊢
          rw [List.map_append, hr, List.take_add_one, List.getElem?_map, e2]
          show _ ++ [c'.2.1] = _
          rw [hc']; rfl
  exact key as.length 0 [] [] (by omega) rfl rfl List.nodup_nil (fun _ _ h => nomatch h) (fun _ h => nomatch h) (by rw [List.take_zero]; rfl)
end
end Mine
namespace Mine
/-- the cells of the rows `as`, put in the order of `bs` -/
noncomputable def reord (bs as : List Addr) (cs : List Cel) : List Cel := bs.map fun b => cs.getD (as.idxOf b) ([], [], 0)
theorem reord_length (bs as : List Addr) (cs : List Cel) : (reord bs as cs).length = bs.length := List.length_map _
theorem matL_get : ∀ {as : List Addr} {cs : List Cel} {p : Addr × Obj}, p ∈ MatL as cs → ∃ (k : Nat) (a : Addr) (c : Cel), as[k]? = some a ∧ cs[k]? = some c ∧ p = (a, listOf c.1.toArray c.2.2)
  | a :: as, c :: cs, p, h => by
    rcases List.mem_cons.mp h with rfl | h
    · exact ⟨0, a, c, rfl, rfl, rfl⟩
    · obtain ⟨k, a', c', h1, h2, h3⟩ := matL_get h
      exact ⟨k + 1, a', c', by simpa using h1, by simpa using h2, h3⟩
  | [], _, _, h => nomatch h
  | _ :: _, [], _, h => nomatch h
theorem idxOf_get : ∀ {as : List Addr} {k : Nat} {a : Addr}, as.Nodup → as[k]? = some a → as.idxOf a = k
  | a' :: as, 0, a, _, h => by
    simp only [List.getElem?_cons_zero, Option.some.injEq] at h
    subst h; simp
  | a' :: as, k + 1, a, hn, h => by
    simp only [List.getElem?_cons_succ] at h
    have hne : a' ≠ a := fun e => (List.nodup_cons.mp hn).1 (e ▸ List.mem_of_getElem? h)
    have hb : (a' == a) = false := by rw [beq_eq_false_iff_ne]; exact hne
    rw [List.idxOf_cons, idxOf_get (List.nodup_cons.mp hn).2 h, hb]
    rfl
  | [], _, _, _, h => by simp at h
theorem reord_mem {bs as : List Addr} {cs : List Cel} (hp : as.Perm bs) (hn : as.Nodup) (hl : cs.length = as.length) (p : Addr × Obj) : p ∈ MatL bs (reord bs as cs) ↔ p ∈ MatL as cs := by
  constructor
  · intro h
    obtain ⟨k, a, c, h1, h2, rfl⟩ := matL_get h
    have hma : a ∈ as := hp.mem_iff.mpr (List.mem_of_getElem? h1)
    obtain ⟨i, hi, he⟩ := List.getElem_of_mem hma
    have e1 : as[i]? = some a := by rw [List.getElem?_eq_getElem hi, he]
    unfold reord at h2
    rw [List.getElem?_map, h1] at h2
    simp only [Option.map_some, Option.some.injEq] at h2
    rw [idxOf_get hn e1, List.getD_eq_getElem?_getD, List.getElem?_eq_getElem (by omega : i < cs.length)] at h2
    exact matL_mem e1 (by rw [List.getElem?_eq_getElem (by omega : i < cs.length)]; exact congrArg some h2)
  · intro h
    obtain ⟨i, a, c, h1, h2, rfl⟩ := matL_get h
    have hmb : a ∈ bs := hp.mem_iff.mp (List.mem_of_getElem? h1)
    obtain ⟨k, hk, he⟩ := List.getElem_of_mem hmb
    have e1 : bs[k]? = some a := by rw [List.getElem?_eq_getElem hk, he]
    refine matL_mem e1 ?_
    unfold reord
    rw [List.getElem?_map, e1]
    simp only [Option.map_some, Option.some.injEq]
    rw [idxOf_get hn h1, List.getD_eq_getElem?_getD, h2]; rfl
section
variable {prog : Program} {w : World} {A : Around} {E : Value → Shared → Prop} {s : Shared} {h₀ : Heap} {env : Env} {x : Str} {body : List Stmt} {Q : Flow → Shared → Prop} {τ : Type}
inductive PMEnd (h₀ : Heap) (L : Addr) (s₁ : Shared) (l : Addr) (n : Nat) (bs : List Addr) (rest own : List (Addr × Obj)) (x : Str) (ps : τ → List (Str × Value)) (stored : List Str) (m₀ : Str → Option Value) (P : List Cel → τ → Prop) (s₂ : Shared) : Prop
  | mk (as : _) (c' : _) (v : _) (h' : _) (tk : _) (m' : _) (rest2 : _)
    (c0 : s₂ = { s₁ with heap := h', toks := tk })
    (c1 : Fr h₀ L h' m')
    (c2 : News h₀ L h' ((l, listOf (as.map Value.ref).toArray n) :: (MatL as c' ++ rest2)))
    (c3 : (∀ p ∈ rest, p ∈ rest2))
    (c4 : (∀ p ∈ own, p ∈ rest2))
    (c5 : as.Perm bs)
    (c6 : CelsOk c')
    (c7 : c'.length = as.length)
    (c8 : (∀ p ∈ ps v, m' p.1 = some p.2))
    (c9 : (∀ z, z ≠ x → (∀ p ∈ ps v, z ≠ p.1) → stored.contains z = false → m' z = m₀ z))
    (c10 : P c' v) : PMEnd h₀ L s₁ l n bs rest own x ps stored m₀ P s₂
noncomputable def PMPost (h₀ : Heap) (L : Addr) (s₁ : Shared) (l : Addr) (n : Nat) (bs : List Addr) (rest own : List (Addr × Obj)) (x : Str) (ps : τ → List (Str × Value)) (stored : List Str) (m₀ : Str → Option Value) (P : List Cel → τ → Prop) (Q : Flow → Shared → Prop) (f : Flow) (s₂ : Shared) : Prop :=
  match f with
  | .ret v => Q (.ret v) s₂
  | .brk => Q .next s₂
  | _ => PMEnd h₀ L s₁ l n bs rest own x ps stored m₀ P s₂
/-- a for over a range whose turns change the rows of one matrix, and their order -/
theorem pmat_range {l : Addr} {nl : Nat} {bs : List Addr} {rest : List (Addr × Obj)} {r : Addr} {a₀ b₀ : Int} {t₀ u₀ v₀ : Tok} {n : Nat} {m₀ : Str → Option Value} {c₀ : List Cel} (ps : τ → List (Str × Value)) (stored : List Str) (P : Nat → List Cel → τ → Prop) (k₀ : τ)
    (hh : A.handled = none) (hr : IsRange s.heap r a₀ b₀ 1 t₀ u₀ v₀) (hsmall : Builtin.Range.small a₀ b₀ 1 = true) (hn : Builtin.Range.rangeSize a₀ b₀ 1 = (n : Int)) (F : Fr h₀ env.locals s.heap m₀) (N : News h₀ env.locals s.heap ((l, listOf (bs.map Value.ref).toArray nl) :: (MatL bs c₀ ++ rest))) (hnd : bs.Nodup) (hc : CelsOk c₀) (hl : c₀.length = bs.length) (hps : ∀ p ∈ ps k₀, m₀ p.1 = some p.2) (hp : P 0 c₀ k₀)
    (turn : ∀ (as : List Addr) (c : List Cel) (v : τ) (j : Nat) t (u : Str → Option Value) h tk own, j < n → as.Perm bs → CelsOk c → c.length = as.length → (∀ p ∈ own, p.1 ∉ bs ∧ p.1 ≠ l) → P j c v → Fr h₀ env.locals h (fun y => if y = x then some (.int (a₀ + (j : Int)) t) else kstB (fun z => if stored.contains z then u z else m₀ z) (ps v) y) → News h₀ env.locals h ((l, listOf (as.map Value.ref).toArray nl) :: (MatL as c ++ (rest ++ own))) →
      wpAny (model prog w) A (execs body env) (PMPost h₀ env.locals { s with heap := h, toks := tk } l nl bs rest own x ps stored m₀ (P (j + 1)) Q) E { s with heap := h, toks := tk })
    (done : ∀ (as : List Addr) (c : List Cel) (v : τ) (u : Str → Option Value) h tk, as.Perm bs → CelsOk c → c.length = as.length → P n c v → Fr h₀ env.locals h (fun y => if y = x then u y else kstB (fun z => if stored.contains z then u z else m₀ z) (ps v) y) → News h₀ env.locals h ((l, listOf (as.map Value.ref).toArray nl) :: (MatL as c ++ rest)) → Q .next { s with heap := h, toks := tk }) :
    wpAny (model prog w) A (pyIter (.ref r)) (fun it s₂ => LoopAtV prog w A h₀ env x body Q E it s₂) E s := by
  have adr : ∀ (as : List Addr) (c : List Cel), ((l, listOf (as.map Value.ref).toArray nl) :: (MatL bs (reord bs as c) ++ rest)).map (·.1) = l :: (bs ++ rest.map (·.1)) := fun as c => by
    rw [List.map_cons, List.map_append, matL_fst (reord_length _ _ _)]
  have turnN : ∀ {as : List Addr} {c : List Cel} {r1 : List (Addr × Obj)} {q : Addr × Obj} (p : Addr × Obj), as.Perm bs → c.length = as.length → (p ∈ q :: (MatL bs (reord bs as c) ++ r1) ↔ p ∈ q :: (MatL as c ++ r1)) := fun p hP hL => by
    simp only [List.mem_cons, List.mem_append, reord_mem hP (hP.nodup_iff.mpr hnd) hL]
  refine kst_range (σ := List Addr × List Cel × τ) (fun c => (l, listOf (c.1.map Value.ref).toArray nl) :: (MatL bs (reord bs c.1 c.2.1) ++ rest)) (fun c => ps c.2.2) (fun c => c.1.Perm bs ∧ CelsOk c.2.1 ∧ c.2.1.length = c.1.length) stored (fun pre c => P pre.length c.2.1 c.2.2) (bs, c₀, k₀) hh hr hsmall hn F
    (fun p hp => N p ((turnN p (.refl _) hl).mp hp)) ⟨.refl _, hc, hl⟩ hps hp ?_ ?_
  · rintro ⟨as, c, v⟩ pre k t u h tk own hk hlt hoff ⟨hf1, hf2, hf3⟩ hp' F' N'
    dsimp only at hf1 hf2 hf3 hp' F' N' hoff
    have hown : ∀ p ∈ own, p.1 ∉ bs ∧ p.1 ≠ l := fun p hp => by
      rw [adr] at hoff
      exact ⟨fun hm => hoff p hp p.1 (List.mem_cons_of_mem _ (List.mem_append_left _ hm)) rfl, fun e => hoff p hp l List.mem_cons_self e⟩
    have F₂ : Fr h₀ env.locals h (fun y => if y = x then some (.int (a₀ + (pre.length : Int)) t) else kstB (fun z => if stored.contains z then u z else m₀ z) (ps v) y) := by
      rw [← hk]; exact F'
    have N₂ : News h₀ env.locals h ((l, listOf (as.map Value.ref).toArray nl) :: (MatL as c ++ (rest ++ own))) := fun p hp => by
      refine N' p ?_
      have := (turnN p hf1 hf3).mpr hp
      simpa [List.append_assoc] using this
    refine wpAny_mono (turn as c v pre.length t u h tk own hlt hf1 hf2 hf3 hown hp' F₂ N₂) (fun f s₂ p => ?_) fun _ _ q => q
    have up : PMEnd h₀ env.locals { s with heap := h, toks := tk } l nl bs rest own x ps stored m₀ (P (pre.length + 1)) s₂ →
        InvEndN h₀ env.locals (KstS (fun c : List Addr × List Cel × τ => (l, listOf (c.1.map Value.ref).toArray nl) :: (MatL bs (reord bs c.1 c.2.1) ++ rest)) (fun c => ps c.2.2) (fun c => c.1.Perm bs ∧ CelsOk c.2.1 ∧ c.2.1.length = c.1.length) x stored m₀ (fun pre c => P pre.length c.2.1 c.2.2) (pre ++ [k])) own
          (((l, listOf (bs.map Value.ref).toArray nl) :: (MatL bs (reord bs bs c₀) ++ rest)).map (·.1)) { s with heap := h, toks := tk } s₂ := by
      rintro ⟨as', c', v', h', tk', m', rest2, rfl, F3, N3, hs, ho, hP', hc', hl', hq', hz, hp3⟩
      refine kst_end (as', c', v') F3 N3 ?_ ?_ ?_ ⟨hP', hc', hl'⟩ hq' hz ?_
      · intro p hp
        have := (turnN p hP' hl').mp hp
        rcases List.mem_cons.mp this with rfl | hp
        · exact List.mem_cons_self
        · refine List.mem_cons_of_mem _ ?_
          rcases List.mem_append.mp hp with hp | hp
          · exact List.mem_append_left _ hp
          · exact List.mem_append_right _ (hs p hp)
      · intro p hp
        exact List.mem_cons_of_mem _ (List.mem_append_right _ (ho p hp))
      · exact (adr as' c').trans (adr bs c₀).symm
      · show P (pre ++ [k]).length c' v'
        rw [List.length_append, List.length_singleton]; exact hp3
    cases f with
    | ret v => exact p
    | brk => exact p
    | next => exact up p
    | cont => exact up p
  · rintro ⟨as, c, v⟩ u h tk ⟨hf1, hf2, hf3⟩ hp' F' N'
    rw [rangeKs_length] at hp'
    exact done as c v u h tk hf1 hf2 hf3 hp' F' (fun p hp => N' p ((turnN p hf1 hf3).mpr hp))
end
end Mine
namespace Mine
theorem CelsOk.row {cs : List Cel} (hc : CelsOk cs) {i N : Nat} {c : Cel} (h : cs[i]? = some c) (hq : ∀ x ∈ rowsOf cs, x.length = N) : c.1.toArray.toList.length = N :=
  (hc _ (List.mem_of_getElem? h)).length.trans (hq _ (List.mem_map_of_mem (List.mem_of_getElem? h)))
end Mine
namespace Mine
theorem srcAt_mono {h₀ : Heap} {ax : Addr} {its : Array Value} {a b : List (Addr × Obj)} (h : ∀ p ∈ a, p ∈ b) (x : LCg.SrcAt h₀ ax its a) : LCg.SrcAt h₀ ax its b := by
  rcases x with x | ⟨o, hm, h1, n, h2⟩
  · exact .inl x
  · exact .inr ⟨o, h _ hm, h1, n, h2⟩
end Mine
end
section
open PySem PySem.W PyProof.Rows
namespace Mine
section
variable {prog : Program} {w : World} {A : Around} {E : Value → Shared → Prop} {s : Shared} {h₀ : Heap} {L : Addr} {m : Str → Option Value}
/-- found[k] = a row -/
theorem ref_set {l : Addr} {as : List Addr} {n : Nat} {rest : List (Addr × Obj)} {k : Int} {t : Tok} {r : Addr} {Q : Unit → Shared → Prop} (F : Fr h₀ L s.heap m) (N : News h₀ L s.heap ((l, listOf (as.map Value.ref).toArray n) :: rest)) (hoff : ∀ p ∈ rest, p.1 ≠ l) (h0 : 0 ≤ k) (h1 : k < (as.length : Int)) (hfit : k < 2 ^ 63)
    (h : ∀ h', Fr h₀ L h' m → News h₀ L h' ((l, listOf ((as.set k.toNat r).map Value.ref).toArray n) :: rest) → Q () { s with heap := h' }) :
    wpAny (model prog w) A (setItem (.ref l) (.int k t) (.ref r)) Q E s := by
  have z := N (l, listOf (as.map Value.ref).toArray n) List.mem_cons_self
  refine ki_setAt z.1 h0 hfit (by rw [List.size_toArray, List.length_map]; omega) (h _ (F.change (Heap.SameBut.update ..) z.2.1 z.2.2) ?_)
  refine ki_turn (pre := []) _ N (fun _ h => nomatch h) hoff ?_ ?_
  · show (as.map Value.ref).toArray.setIfInBounds k.toNat (.ref r) = _
    apply Array.toList_inj.mp
    simp
  · simp
end
theorem matL_swap {as : List Addr} {cs : List Cel} {k j : Nat} {d : Addr} {d' : Cel} (hk : k < as.length) (hj : j < as.length) (hl : cs.length = as.length) (p : Addr × Obj) (h : p ∈ MatL (swapR as k j d) (swapR cs k j d')) : p ∈ MatL as cs := by
  obtain ⟨i, a, c, h1, h2, rfl⟩ := matL_get h
  rw [swapR_getElem? hk hj] at h1
  rw [swapR_getElem? (by omega) (by omega)] at h2
  by_cases e1 : i = j
  · rw [if_pos e1] at h1 h2; exact matL_mem h1 h2
  · rw [if_neg e1] at h1 h2
    by_cases e2 : i = k
    · rw [if_pos e2] at h1 h2; exact matL_mem h1 h2
    · rw [if_neg e2] at h1 h2; exact matL_mem h1 h2
theorem swapR_perm {as : List Addr} {k j : Nat} {d : Addr} (hk : k < as.length) (hj : j < as.length) : (swapR as k j d).Perm as := by
  rw [List.perm_iff_count]
  intro a
  unfold swapR
  have ek : as.getD k d = as[k] := by rw [List.getD_eq_getElem?_getD, List.getElem?_eq_getElem hk]; rfl
  have ej : as.getD j d = as[j] := by rw [List.getD_eq_getElem?_getD, List.getElem?_eq_getElem hj]; rfl
  rw [ek, ej]
  have ck : as[k] = a → 0 < as.count a := fun e => List.count_pos_iff.mpr (e ▸ List.getElem_mem _)
  rw [List.count_set (by rw [List.length_set]; exact hj), List.count_set hk]
  by_cases e : k = j
  · subst e
    simp only [List.getElem_set_self]
    by_cases h1 : as[k] = a <;> simp [h1] <;> have := ck h1 <;> omega
  · rw [List.getElem_set_ne (by omega)]
    have cj : as[j] = a → 0 < as.count a := fun e => List.count_pos_iff.mpr (e ▸ List.getElem_mem _)
    by_cases h1 : as[k] = a <;> by_cases h2 : as[j] = a <;> simp [h1, h2] <;> (try have := ck h1) <;> (try have := cj h2) <;> omega
theorem celsOk_swap {cs : List Cel} {k j : Nat} {d : Cel} (hk : k < cs.length) (hj : j < cs.length) (h : CelsOk cs) : CelsOk (swapR cs k j d) := fun c hc => h c (swapR_mem hk hj hc)
theorem rowsOf_swap (cs : List Cel) (k j : Nat) : rowsOf (swapR cs k j ([], [], 0)) = swapR (rowsOf cs) k j [] := swapR_map (fun c : Cel => c.2.1) cs k j ([], [], 0)
theorem getD_of {as : List Addr} {k : Nat} {r d : Addr} (h : as[k]? = some r) : r = as.getD k d := by rw [List.getD_eq_getElem?_getD, h]; rfl
theorem swap_news {h₀ h : Heap} {L l : Addr} {as : List Addr} {cs : List Cel} {n : Nat} {rest : List (Addr × Obj)} {k j : Nat} {rk rj : Addr} (N : News h₀ L h ((l, listOf (((as.set k rj).set j rk).map Value.ref).toArray n) :: (MatL as cs ++ rest))) (hk : as[k]? = some rk) (hj : as[j]? = some rj) (hl : cs.length = as.length) :
    News h₀ L h ((l, listOf ((swapR as k j 0).map Value.ref).toArray n) :: (MatL (swapR as k j 0) (swapR cs k j ([], [], 0)) ++ rest)) := by
  have e : (as.set k rj).set j rk = swapR as k j 0 := by unfold swapR; rw [getD_of (d := 0) hk, getD_of (d := 0) hj]
  rw [e] at N
  have hk' : k < as.length := (List.getElem?_eq_some_iff.mp hk).1
  have hj' : j < as.length := (List.getElem?_eq_some_iff.mp hj).1
  refine kst_newsOf N fun p hp => ?_
  rcases List.mem_cons.mp hp with rfl | hp
  · exact List.mem_cons_self
  · refine List.mem_cons_of_mem _ ?_
    rcases List.mem_append.mp hp with hp | hp
    · exact List.mem_append_left _ (matL_swap hk' hj' hl p hp)
    · exact List.mem_append_right _ hp
theorem pmend_intro {τ : Type} {h₀ : Heap} {L : Addr} {s : Shared} {l : Addr} {n : Nat} {bs : List Addr} {rest own rest2 : List (Addr × Obj)} {x : Str} {ps : τ → List (Str × Value)} {stored : List Str} {m₀ m' : Str → Option Value} {P : List Cel → τ → Prop} {as : List Addr} {c' : List Cel} (v : τ) {h' : Heap} {tk : Nat}
    (F : Fr h₀ L h' m') (N : News h₀ L h' ((l, listOf (as.map Value.ref).toArray n) :: (MatL as c' ++ rest2))) (hs : ∀ p ∈ rest, p ∈ rest2) (ho : ∀ p ∈ own, p ∈ rest2) (hP : as.Perm bs) (hc : CelsOk c') (hl : c'.length = as.length) (h1 : ∀ p ∈ ps v, m' p.1 = some p.2) (hz : ∀ z, z ≠ x → (∀ p ∈ ps v, z ≠ p.1) → stored.contains z = false → m' z = m₀ z) (hp : P c' v) :
    PMEnd h₀ L s l n bs rest own x ps stored m₀ P { s with heap := h', toks := tk } :=
  ⟨as, c', v, h', tk, m', rest2, rfl, F, N, hs, ho, hP, hc, hl, h1, hz, hp⟩
end Mine
namespace Mine
theorem detState_sq {M : List (List Int)} (hM : Square M) : ∀ (j : Nat) (M' : List (List Int)) (sign ahead : Int), j ≤ M.length → detState M j = some (M', sign, ahead) → M'.length = M.length ∧ Square M' := by
  intro j
  induction j with
  | zero =>
    intro M' sign ahead _ e
    rw [detState] at e
    cases e
    exact ⟨rfl, hM⟩
  | succ j ih =>
    intro M' sign ahead hj e
    rw [detState] at e
    cases hs : detState M j with
    | none => rw [hs] at e; cases e
    | some st =>
      obtain ⟨M₁, sign₁, ahead₁⟩ := st
      rw [hs] at e
      simp only at e
      obtain ⟨hl, hq⟩ := ih M₁ sign₁ ahead₁ (by omega) hs
      cases hp : pivotP M₁ j with
      | none => rw [hp] at e; cases e
      | some k =>
        rw [hp] at e
        simp only at e
        obtain ⟨hne, hk1, hk2⟩ := pivotP_ne hp
        split at e
        · simp only [Option.some.injEq, Prod.mk.injEq] at e
          obtain ⟨rfl, rfl, rfl⟩ := e
          refine ⟨by rw [bareissP_length, swapR_length, hl], bareissP_square (swapR_square hq hk2 (by omega)) (by rw [swapR_length]; omega) _⟩
        · simp only [Option.some.injEq, Prod.mk.injEq] at e
          obtain ⟨rfl, rfl, rfl⟩ := e
          exact ⟨by rw [bareissP_length, hl], bareissP_square hq (by omega) _⟩
theorem det_apart {h₀ h : Heap} {L T D : Addr} {bs : List Addr} {ds : List Cel} {R0 : List (Addr × Obj)} {oT : Obj} {d : Addr × Obj} (_ : News h₀ L h ((T, oT) :: d :: (MatL bs ds ++ R0))) (ho : LCg.Off1 D (MatL bs ds ++ R0)) (hT : D < T ∧ AllLt T (MatL bs ds ++ R0)) (hl : ds.length = bs.length) (h4 : ∀ p ∈ R0, p.1 ∉ bs) :
    D ∉ bs ∧ ∀ p ∈ (T, oT) :: R0, p.1 ∉ bs ∧ p.1 ≠ D := by
  have a1 := off1_ne ho
  have a2 := ktn_ltOf hT.2
  have a3 := matL_fst hl
  refine ⟨fun hm => ?_, fun p hp => ?_⟩
  · rw [← a3] at hm
    obtain ⟨p, hp, e⟩ := List.mem_map.mp hm
    exact a1 p (List.mem_append_left _ hp) e
  · rcases List.mem_cons.mp hp with rfl | hp
    · refine ⟨fun hm => ?_, fun e => ?_⟩
      · rw [← a3] at hm
        obtain ⟨p', hp', e⟩ := List.mem_map.mp hm
        have := a2 p' (List.mem_append_left _ hp')
        rw [e] at this
        exact Nat.lt_irrefl _ this
      · have e : T = D := e
        exact Nat.lt_irrefl D (by have := hT.1; rw [e] at this; exact this)
    · exact ⟨h4 p hp, a1 p (List.mem_append_right _ hp)⟩
theorem det_off {as bs : List Addr} {c : List Cel} {rest own : List (Addr × Obj)} {D : Addr} (hD : D ∉ bs) (hr : ∀ p ∈ rest, p.1 ∉ bs ∧ p.1 ≠ D) (ho : ∀ p ∈ own, p.1 ∉ bs ∧ p.1 ≠ D) (hP : as.Perm bs) :
    D ∉ as ∧ (∀ p ∈ MatL as c ++ (rest ++ own), p.1 ≠ D) ∧ ∀ p ∈ rest ++ own, p.1 ∉ as := by
  have hDa : D ∉ as := fun h => hD (hP.mem_iff.mp h)
  refine ⟨hDa, fun p hp => ?_, fun p hp hm => ?_⟩
  · rcases List.mem_append.mp hp with hp | hp
    · exact fun e => hDa (e ▸ matL_in p hp)
    · rcases List.mem_append.mp hp with hp | hp
      · exact (hr p hp).2
      · exact (ho p hp).2
  · rcases List.mem_append.mp hp with hp | hp
    · exact (hr p hp).1 (hP.mem_iff.mp hm)
    · exact (ho p hp).1 (hP.mem_iff.mp hm)
theorem news_rot {h₀ h : Heap} {L : Addr} {q d : Addr × Obj} {M R : List (Addr × Obj)} (N : News h₀ L h (q :: d :: (M ++ R))) : News h₀ L h (d :: (M ++ (q :: R))) := kst_newsOf N fun p hp => by
  simp only [List.mem_cons, List.mem_append] at hp ⊢
  rcases hp with hp | hp | hp | hp
  · exact .inr (.inl hp)
  · exact .inr (.inr (.inl hp))
  · exact .inl hp
  · exact .inr (.inr (.inr hp))
end Mine
namespace Mine
theorem det_next_swap {M : List (List Int)} {c2 cs9 : List Cel} {j k : Nat} {sg ah : Int} {xs : List Int} (hp2 : detState M j = some (rowsOf c2, sg, ah)) (hpv : pivotP (rowsOf c2) j = some k) (hne : k ≠ j) (hr9 : rowsOf cs9 = bareissP (rowsOf (swapR c2 k j ([], [], 0))) j ah) (hx : xs = (rowsOf cs9).getD (j : Int).toNat []) :
    detState M (j + 1) = some (rowsOf cs9, -sg, xs.getD (j : Int).toNat 0) := by
  rw [detState_swap hp2 hpv hne, hx, hr9, rowsOf_swap]; rfl
theorem det_next_same {M : List (List Int)} {c2 cs9 : List Cel} {j k : Nat} {sg ah : Int} {xs : List Int} (hp2 : detState M j = some (rowsOf c2, sg, ah)) (hpv : pivotP (rowsOf c2) j = some k) (hne : k = j) (hr9 : rowsOf cs9 = bareissP (rowsOf c2) j ah) (hx : xs = (rowsOf cs9).getD (j : Int).toNat []) :
    detState M (j + 1) = some (rowsOf cs9, sg, xs.getD (j : Int).toNat 0) := by
  subst hne
  rw [detState_same hp2 hpv, hx, hr9]; rfl
theorem detP_some {M M' : List (List Int)} {n : Nat} {sg ah : Int} (h : detState M n = some (M', sg, ah)) (hn : n = M.length) : sg * ah = detP M := by
  subst hn; unfold detP; rw [h]
end Mine
end
section
open PySem PySem.W PyProof.Rows
namespace Mine
section
variable {M : Model} {A : Around} {E : Value → Shared → Prop} {s : Shared}
theorem newFunctionEnv_over {scope : Scope} {globals : Addr} {cl : List (Str × Addr)} {qual : Str} {env0 : Env} {Q : Env → Shared → Prop}
    (hQ : Q { scope := scope, locals := s.heap.objs.size, globals := globals, cells := cellsFrom (s.heap.objs.size + 1) scope.names cl, qual := qual, func := none, code := env0.code, frame := env0.frame, builtins := env0.builtins } { s with heap := pushCells (s.heap.push { cls := .type "dict", data := .dict #[] }) scope.names }) :
    wpAny M A (newFunctionEnv scope globals cl [] qual none .none (some env0)) Q E s := by
  simp only [newFunctionEnv, Option.isSome_some, if_true]
  refine wpAny_bind (wpAny_alloc ?_)
  refine wpAny_bind (wpAny_layCells _ (fun name kind cells => by cases hkc : kind == NameKind.cell <;> simp [hkc]) _ _ _ _ ?_)
  rw [show ({ s with heap := s.heap.push { cls := .type "dict", data := .dict #[] } } : Shared).heap.objs.size = s.heap.objs.size + 1 from Heap.size_push ..]
  rw [List.forIn_nil]
  exact wpAny_bind (wpAny_pure (wpAny_pure hQ))
end
section
variable {prog : Program} {w : World} {A : Around} {E : Value → Shared → Prop} {s : Shared} {h₀ : Heap} {L : Addr} {m : Str → Option Value} {env : Env}
theorem adr_off {a I k : Addr} (h : a < I) (hk : (@LE.le Nat _ I k)) : a ≠ k := Nat.ne_of_lt (Nat.lt_of_lt_of_le h hk)
/-- a turn of [elt for x in range(..)], x a cell of the block: elt is an int -/
noncomputable def CTurn (prog : Program) (w : World) (A : Around) (h₀ : Heap) (L : Addr) (m : Str → Option Value) (env : Env) (elt : PySem.Expr) (x : Str) (scope : Scope) (cl : List (Str × Addr)) (s : Shared) (news : List (Addr × Obj)) (n : Nat) (a : Int) (g : Nat → Int) : Prop :=
  ∀ (i : Nat) (t : Tok) (I : Addr) (oI : Obj) (C S : Addr) (oC oS : Obj) (D : Addr) (ys : List Value) (m₂ : Str → Option Value) (h : Heap) (tk : Nat) (E' : Value → Shared → Prop), i < n → LCg.NsObj oC m₂ → oS.data = .cell (some (.int (a + (i : Int)) t)) → Fr h₀ L h m →
    News h₀ L h ((I, oI) :: (C, oC) :: (S, oS) :: (D, LCg.lst ys) :: news) →
    wpAny (model prog w) A (eval elt (compEnvC scope ((x, S) :: cl) C env)) (fun y s₂ => ∃ h' tk' t', s₂ = { s with heap := h', toks := tk' } ∧ y = .int (g i) t' ∧ Fr h₀ L h' m ∧ News h₀ L h' ((I, oI) :: (C, oC) :: (S, oS) :: (D, LCg.lst ys) :: news)) E' { s with heap := h, toks := tk }
inductive CSrc (prog : Program) (w : World) (A : Around) (h₀ : Heap) (L : Addr) (m : Str → Option Value) (env : Env) (elt : PySem.Expr) (x : Str) (scope : Scope) (cl : List (Str × Addr)) (Q : Value → Shared → Prop) (xv : Value) (s₁ : Shared) : Prop
  | mk (r : Addr) (a b : Int) (t u v : Tok) (n : Nat) (news : List (Addr × Obj)) (g : Nat → Int)
    (c0 : xv = .ref r)
    (c1 : A.handled = none)
    (c2 : Fr h₀ L s₁.heap m)
    (c3 : News h₀ L s₁.heap news)
    (c4 : IsRange s₁.heap r a b 1 t u v)
    (c5 : Builtin.Range.small a b 1 = true)
    (c6 : Builtin.Range.rangeSize a b 1 = (n : Int))
    (c7 : n ≤ sizeLine)
    (c8 : (∀ s₂ : Shared, (∃ h, s₂ = { s₁ with heap := h }) → CTurn prog w A h₀ L m env elt x scope cl s₂ news n a g))
    (c9 : ∀ (ys : List Value) (D : Addr) (h : Heap) (tk : Nat), IntsAre ys ((List.range n).map g) → Fr h₀ L h m → News h₀ L h ((D, LCg.lst ys) :: news) → LCg.Off1 D news → Q (.ref D) { s₁ with heap := h, toks := tk }) : CSrc prog w A h₀ L m env elt x scope cl Q xv s₁
theorem CSrc.intro {elt : PySem.Expr} {x : Str} {scope : Scope} {cl : List (Str × Addr)} {Q : Value → Shared → Prop} {r : Addr} {a b : Int} {t u v : Tok} {n : Nat} {news : List (Addr × Obj)} (g : Nat → Int)
    (hh : A.handled = none) (F : Fr h₀ L s.heap m) (N : News h₀ L s.heap news) (hr : IsRange s.heap r a b 1 t u v) (hsm : Builtin.Range.small a b 1 = true) (hn : Builtin.Range.rangeSize a b 1 = (n : Int)) (hsz : n ≤ sizeLine)
    (turn : ∀ s₂ : Shared, (∃ h, s₂ = { s with heap := h }) → CTurn prog w A h₀ L m env elt x scope cl s₂ news n a g)
    (fin : ∀ (ys : List Value) (D : Addr) (h : Heap) (tk : Nat), IntsAre ys ((List.range n).map g) → Fr h₀ L h m → News h₀ L h ((D, LCg.lst ys) :: news) → LCg.Off1 D news → Q (.ref D) { s with heap := h, toks := tk }) :
    CSrc prog w A h₀ L m env elt x scope cl Q (.ref r) s := ⟨r, a, b, t, u, v, n, news, g, rfl, hh, F, N, hr, hsm, hn, hsz, turn, fin⟩
inductive CellInv (h₀ : Heap) (L : Addr) (m : Str → Option Value) (s₁ : Shared) (n : Nat) (g : Nat → Int) (a : Int) (I : Addr) (news : List (Addr × Obj)) (k : Nat) (s' : Shared) : Prop
  | mk (h' : Heap) (tk : Nat) (i : Nat) (ys : List Value) (m' : Str → Option Value) (cv : Option Value) (c0 : s' = { s₁ with heap := h', toks := tk }) (c1 : i ≤ n) (c2 : k = n + 1 - i) (c3 : IntsAre ys ((List.range i).map g))
    (c4 : IsRangeIter h' I (a + (i : Nat) * 1) ((n : Int) - (i : Nat)) 1) (c5 : Fr h₀ L h' m) (c6 : h'.Ns (I + 1 + 1) m') (c7 : h'.IsCell (I + 1 + 1 + 1) cv) (c8 : News h₀ L h' ((I + 1, LCg.lst ys) :: news)) : CellInv h₀ L m s₁ n g a I news k s'
theorem ListComp_cell {elt iter : PySem.Expr} {x : Str} {px : Pos} {scope : Scope} {cl : List (Str × Addr)} {pos : Pos} {Q : Value → Shared → Prop} (_F₀ : Fr h₀ L s.heap m)
    (hclos : closureFor scope env = pure cl) (hkind : scope.kind = .function)
    (hnames : ∀ y ∈ scope.names, y.2 = .local → scope.names.lookup y.1 = some .local)
    (hcells : ∀ n, cellsFrom n scope.names cl = (x, n) :: cl) (hpush : ∀ h, pushCells h scope.names = h.push { cls := .type "cell", data := .cell none })
    (hx : (relabel scope env).names.lookup x = some .cell)
    (h : wpAny (model prog w) A (eval iter env) (CSrc prog w A h₀ L m env elt x scope cl Q) E s)
    (hs : ∀ x, foldedSetIterable iter env x = pure x := by intro _; rfl) :
    wpAny (model prog w) A (eval (.ListComp elt [⟨.Name x px, iter, [], 0⟩] scope pos) env) Q E s := by
  rw [eval_ListComp]
  refine wpAny_comprehension_free (use := none) rfl hs hclos hkind hnames (wpAny_mono h (fun xv s₁ h₁ => ?_) fun _ _ e => e)
  obtain ⟨r, a, b, t, u, v, n, news, g, rfl, hh, F, N, hr, hsm, hn, hsz, turn, fin⟩ := h₁
  refine wpAny_pyIter_range hr hsm ?_
  have W := LCg.range_walks (prog := prog) (w := w) (A := A) (I := s₁.heap.objs.size) hh a n
  have F1 : Fr h₀ L (s₁.heap.push { cls := .type "range_iterator", data := .fields #[rawInt a, rawInt (Builtin.Range.rangeSize a b 1), rawInt 1] }) m := F.push _
  have N1 : News h₀ L (s₁.heap.push { cls := .type "range_iterator", data := .fields #[rawInt a, rawInt (Builtin.Range.rangeSize a b 1), rawInt 1] }) news := N.grown fun _ _ e => Heap.get?_push_of_some _ e
  have hst : IsRangeIter (s₁.heap.push { cls := .type "range_iterator", data := .fields #[rawInt a, rawInt (Builtin.Range.rangeSize a b 1), rawInt 1] }) s₁.heap.objs.size (a + ((0 : Nat) : Int) * 1) ((n : Int) - ((0 : Nat) : Int)) 1 := by
    show Heap.get? _ _ = some _
    rw [hn]; simpa using Heap.get?_push_size _ rfl
  have hlow : ∀ p ∈ news, p.1 < s₁.heap.objs.size := fun p hp => Heap.lt_size (N p hp).1
  have hLit : L < s₁.heap.objs.size := F.ns.lt
  have hi₀ : h₀.get? s₁.heap.objs.size = none := next_is_new F
  have habove : h₀.objs.size ≤ s₁.heap.objs.size := Nat.le_trans F.above (Nat.le_of_lt hLit)
  generalize hI : s₁.heap.objs.size = I at *
  generalize hH1 : s₁.heap.push { cls := .type "range_iterator", data := .fields #[rawInt a, rawInt (Builtin.Range.rangeSize a b 1), rawInt 1] } = H1 at *
  have hs1 : H1.objs.size = I + 1 := by rw [← hH1, Heap.size_push, hI]
  -- the list that is built (D), the block's own names (C), the cell (S)
  refine wpAny_newObj_type (newFunctionEnv_over ?_)
  dsimp only
  generalize hH2 : H1.push { cls := .type "list", dict := none, data := .seq ([] : List Value).toArray } = H2
  have hs2 : H2.objs.size = I + 1 + 1 := by rw [← hH2, Heap.size_push, hs1]
  have gD : H2.get? (I + 1) = some (LCg.lst []) := by rw [← hH2, ← hs1]; exact Heap.get?_push_size _ rfl
  have up2 : ∀ b o, H1.get? b = some o → H2.get? b = some o := fun b o e => by rw [← hH2]; exact Heap.get?_push_of_some _ e
  rw [hcells, hpush]
  have nC := Heap.Ns.new H2 (.type "dict")
  generalize hH3 : H2.push { cls := .type "dict", data := .dict #[] } = H3 at *
  have hs3 : H3.objs.size = I + 1 + 1 + 1 := by rw [← hH3, Heap.size_push, hs2]
  have up3 : ∀ b o, H2.get? b = some o → H3.get? b = some o := fun b o e => by rw [← hH3]; exact Heap.get?_push_of_some _ e
  generalize hH4 : H3.push { cls := .type "cell", data := .cell none } = H4
  have up4 : ∀ b o, H3.get? b = some o → H4.get? b = some o := fun b o e => by rw [← hH4]; exact Heap.get?_push_of_some _ e
  have cS : H4.IsCell (I + 1 + 1 + 1) none := ⟨_, by rw [← hH4, ← hs3]; exact Heap.get?_push_size _ rfl, rfl⟩
  have nC4 : H4.Ns (I + 1 + 1) (fun _ => none) := by rw [← hs2]; exact nC.keeps up4
  have old : ∀ b o, H1.get? b = some o → H4.get? b = some o := fun b o e => up4 _ _ (up3 _ _ (up2 _ _ e))
  have gD4 : H4.get? (I + 1) = some (LCg.lst []) := up4 _ _ (up3 _ _ gD)
  rw [hs1, hs2]
  have no₀ : ∀ b, I ≤ b → h₀.get? b = none := fun b hb => Heap.get?_none_of_le (Nat.le_trans habove hb)
  have hD₀ := no₀ (I + 1) (by omega)
  have hC₀ := no₀ (I + 1 + 1) (by omega)
  have hS₀ := no₀ (I + 1 + 1 + 1) (by omega)
  have hLI : L ≠ I := Nat.ne_of_lt hLit
  have hDL : I + 1 ≠ L := Nat.ne_of_gt (Nat.lt_succ_of_lt hLit)
  have hCL : I + 1 + 1 ≠ L := Nat.ne_of_gt (Nat.lt_succ_of_lt (Nat.lt_succ_of_lt hLit))
  have hSL : I + 1 + 1 + 1 ≠ L := Nat.ne_of_gt (Nat.lt_succ_of_lt (Nat.lt_succ_of_lt (Nat.lt_succ_of_lt hLit)))
  show codeAny _ _ (.compStart _ 0 _ _ (compEnvC scope ((x, I + 1 + 1 + 1) :: cl) (I + 1 + 1) env)) _ _
  have loop : ∀ s₃ : Shared, s₃ = { s₁ with heap := H4 } →
      codeAny (model prog w) A (.compLoop (.ListComp elt [⟨.Name x px, iter, [], 0⟩] scope pos) 0 (.ref I) (.ref (I + 1)) (compEnvC scope ((x, I + 1 + 1 + 1) :: cl) (I + 1 + 1) env))
        (compPost (model prog w) A E none Q (.ref (I + 1)) (I + 1 + 1)) s₃ := by
    rintro s₃ rfl
    refine codeAny_compLoop_tests
      (CellInv h₀ L m s₁ n g a I news) ?_ (n + 1)
      ⟨H4, _, 0, [], _, _, rfl, Nat.zero_le _, rfl, .nil, W.frame _ _ _ hst fun b _ o e => old b o e, F1.keeps old, nC4, cS, fun p hp => ?_⟩
    · rintro k s' ⟨h', tk, i, ys, m', cv, rfl, hi, rfl, hys, hst', F', hn', hc', N'⟩
      have hyl : ys.length = i := by
        have := hys.length
        simpa using this
      by_cases hlt : i < n
      · refine W.item i _ _ _ hlt hst' fun v h₂ tk₂ hPv hst₂ hk₂ => ?_
        obtain ⟨t, rfl⟩ := hPv
        have k2 : ∀ b o, b ≠ I → h'.get? b = some o → h₂.get? b = some o := fun b o hb e => hk₂ b o (by simpa using hb) e
        have hc₂ : h₂.IsCell (I + 1 + 1 + 1) cv := by
          obtain ⟨o, ho, hd⟩ := hc'
          exact ⟨o, k2 _ o (by omega) ho, hd⟩
        refine wpAny_assign_Name (wpAny_storeName_cell (c := I + 1 + 1 + 1) (by simp [compEnvC, relabel, hkind]) hx (by simp [compEnvC]) hc₂ fun h₃ hc₃ hs₃ => ?_)
        refine wpAny_tests_nil ?_
        simp only [if_true]
        have k3 : ∀ b o, b ≠ I + 1 + 1 + 1 → h₂.get? b = some o → h₃.get? b = some o := fun b o hb e => hs₃.extBut b o hb e
        have hst₃ : IsRangeIter h₃ I (a + ((i + 1 : Nat) : Nat) * 1) ((n : Int) - ((i + 1 : Nat) : Nat)) 1 := W.frame _ _ _ hst₂ fun b hb o e => k3 b o (by rw [List.mem_singleton.mp hb]; omega) e
        obtain ⟨oI, heI⟩ : ∃ o, h₃.get? I = some o := ⟨_, hst₃⟩
        have hn₃ : h₃.Ns (I + 1 + 1) m' := (hn'.at' fun o e => k2 _ o (by omega) e).at' fun o e => k3 _ o (by omega) e
        obtain ⟨oC, heC, hoC⟩ := LCg.ns_obj hn₃
        obtain ⟨oS, heS, hdS⟩ := hc₃
        have keep : ∀ b o, b ≠ I → b ≠ I + 1 + 1 + 1 → h'.get? b = some o → h₃.get? b = some o := fun b o h1 h2 e => k3 b o h2 (k2 b o h1 e)
        have F₃ : Fr h₀ L h₃ m := ⟨F'.ns.at' fun o e => keep _ o hLI (Ne.symm hSL) e, fun b o e => keep b o (fun q => by rw [q, hi₀] at e; cases e) (fun q => by rw [q, hS₀] at e; cases e) (F'.keep b o e), F'.above⟩
        have N₃ : News h₀ L h₃ ((I, oI) :: (I + 1 + 1, oC) :: (I + 1 + 1 + 1, oS) :: (I + 1, LCg.lst ys) :: news) := fun p hp => by
          rcases List.mem_cons.mp hp with rfl | hp
          · exact ⟨heI, Ne.symm hLI, hi₀⟩
          · rcases List.mem_cons.mp hp with rfl | hp
            · exact ⟨heC, hCL, hC₀⟩
            · rcases List.mem_cons.mp hp with rfl | hp
              · exact ⟨heS, hSL, hS₀⟩
              · have z := N' p hp
                refine ⟨keep _ _ ?_ ?_ z.1, z.2⟩
                · rcases List.mem_cons.mp hp with rfl | hp
                  · exact Nat.succ_ne_self _
                  · exact Nat.ne_of_lt (hlow p hp)
                · rcases List.mem_cons.mp hp with rfl | hp
                  · show I + 1 ≠ I + 1 + 1 + 1; omega
                  · exact adr_off (hlow p hp) (by omega)
        refine wpAny_mono (turn { s₁ with heap := h₃ } ⟨h₃, rfl⟩ i t I oI (I + 1 + 1) (I + 1 + 1 + 1) oC oS (I + 1) ys m' h₃ _ _ hlt hoC (by simpa using hdS) F₃ N₃) (fun y s₄ h₄ => ?_) fun _ _ e => e
        obtain ⟨h₄, tk₄, t₄, rfl, rfl, F₄, N₄⟩ := h₄
        have zI := (N₄ (I, oI) List.mem_cons_self).1
        have zC := (N₄ (I + 1 + 1, oC) (List.mem_cons_of_mem _ List.mem_cons_self)).1
        have zS := (N₄ (I + 1 + 1 + 1, oS) (List.mem_cons_of_mem _ (List.mem_cons_of_mem _ List.mem_cons_self))).1
        have N₄' : News h₀ L h₄ ((I + 1, LCg.lst ys) :: news) := fun p hp => N₄ p (List.mem_cons_of_mem _ (List.mem_cons_of_mem _ (List.mem_cons_of_mem _ hp)))
        have zD := (N₄' (I + 1, LCg.lst ys) List.mem_cons_self).1
        have hst₄ : IsRangeIter h₄ I (a + ((i + 1 : Nat) : Nat) * 1) ((n : Int) - ((i + 1 : Nat) : Nat)) 1 := by
          have st' : h₃.get? I = some _ := hst₃
          show h₄.get? I = some _
          rw [zI, ← heI]; exact st'
        refine append_at (hsz := by show ys.toArray.size ≤ sizeLine; rw [List.size_toArray, hyl]; exact Nat.le_trans hi hsz) zD fun h₅ hs₅ hD₅ => ?_
        have k5 : ∀ b o, b ≠ I + 1 → h₄.get? b = some o → h₅.get? b = some o := fun b o hb e => hs₅.extBut b o hb e
        refine ⟨n + 1 - (i + 1), by omega, h₅, tk₄, i + 1, ys ++ [.int (g i) t₄], _, _, rfl, hlt, rfl, ?_, W.frame _ _ _ hst₄ fun b hb o e => k5 b o (by rw [List.mem_singleton.mp hb]; omega) e, F₄.change hs₅ hDL hD₀,
          (hoC.ns zC).at' fun o e => k5 _ o (by omega) e, ⟨oS, k5 _ _ (by omega) zS, hdS⟩, fun p hp => ?_⟩
        · rw [List.range_succ, List.map_append]
          exact IntsAre.append hys (.cons _ _ .nil)
        · rcases List.mem_cons.mp hp with rfl | hp
          · exact ⟨hD₅.trans (congrArg some (LCg.lst_snoc ys _)), hDL, hD₀⟩
          · have := hlow p hp
            exact ⟨k5 _ _ (adr_off (hlow p hp) (by omega)) (N₄' p (List.mem_cons_of_mem _ hp)).1, (N₄' p (List.mem_cons_of_mem _ hp)).2⟩
      · obtain rfl : i = n := Nat.le_antisymm hi (Nat.not_lt.mp hlt)
        refine W.done _ _ _ hst' fun h₂ tk₂ hk₂ => ?_
        have k2 : ∀ b o, b ≠ I → h'.get? b = some o → h₂.get? b = some o := fun b o hb e => hk₂ b o (by simpa using hb) e
        have F₂ : Fr h₀ L h₂ m := ⟨F'.ns.at' fun o e => k2 _ o hLI e, fun b o e => k2 b o (fun q => by rw [q, hi₀] at e; cases e) (F'.keep b o e), F'.above⟩
        have N₂ : News h₀ L h₂ ((I + 1, LCg.lst ys) :: news) := fun p hp => by
          refine ⟨k2 _ _ ?_ (N' p hp).1, (N' p hp).2⟩
          rcases List.mem_cons.mp hp with rfl | hp
          · exact Nat.succ_ne_self _
          · exact Nat.ne_of_lt (hlow p hp)
        refine ⟨m', hn'.at' fun o e => k2 _ o (by omega) e, fun h'' hs'' => fin ys (I + 1) h'' tk₂ hys (F₂.change hs'' hCL hC₀) (fun p hp => ⟨hs''.extBut _ _ ?_ (N₂ p hp).1, (N₂ p hp).2⟩) (off1_of fun p hp => adr_off (hlow p hp) (by omega))⟩
        rcases List.mem_cons.mp hp with rfl | hp
        · show I + 1 ≠ I + 1 + 1; omega
        · exact adr_off (hlow p hp) (by omega)
    · rcases List.mem_cons.mp hp with rfl | hp
      · exact ⟨gD4, hDL, hD₀⟩
      · exact ⟨old _ _ (N1 p hp).1, (N1 p hp).2⟩
  exact codeAny_compStart_list (loop _ rfl) (W.self 0 _ _ _ (W.frame _ _ _ hst fun b _ o e => old b o e) (loop _ rfl))
end
section
variable {prog : Program} {w : World} {A : Around} {h₀ : Heap} {L : Addr} {m : Str → Option Value} {env : Env} {ct elt : PySem.Expr} {x : Str} {scope : Scope} {cl : List (Str × Addr)} {s : Shared} {S : List (Addr × Obj) → Prop} {P : Nat → Value → Prop} {Fin : List Value → List (Addr × Obj) → Prop} {news : List (Addr × Obj)}
/-- a comprehension over a list of refs, each turn of which makes a new row out of the row -/
theorem comp_rowsG {as : List Addr} {cs : List Cel} (G : List Int → List Int) (hl : cs.length = as.length)
    (turn : ∀ (i : Nat) (r : Addr) (c : Cel) I oI C oC D m₂ ys bs ds h tk (E' : Value → Shared → Prop), as[i]? = some r → cs[i]? = some c → LCg.NsObj oC m₂ → m₂ x = some (.ref r) → Fr h₀ L h m → News h₀ L h ((I, oI) :: (C, oC) :: (D, LCg.lst ys) :: (MatL bs ds ++ news)) → LCg.Off3 I C D (MatL bs ds ++ news) → ((@Ne Nat I C) ∧ (@Ne Nat I D) ∧ (@Ne Nat C D)) →
      wpAny (model prog w) A (eval elt (compEnvC scope cl C env)) (LCg.CompEnd h₀ L m { s with heap := h, toks := tk } I oI C oC D (LCg.lst ys) S (fun y news' => ∃ (b : Addr) (c' : Cel), y = .ref b ∧ (∀ p ∈ MatL bs ds ++ news, p.1 ≠ b) ∧ c'.2.1 = G c.2.1 ∧ IntsAre c'.1 c'.2.1 ∧ news' = (b, listOf c'.1.toArray c'.2.2) :: (MatL bs ds ++ news))) E' { s with heap := h, toks := tk })
    (hS : ∀ a b, (∀ p ∈ a, p ∈ b) → S a → S b)
    (fin : ∀ bs ds, bs.length = as.length → ds.length = as.length → bs.Nodup → (∀ p ∈ news, p.1 ∉ bs) → CelsOk ds → rowsOf ds = (rowsOf cs).map G → Fin (bs.map Value.ref) (MatL bs ds ++ news)) : LCg.CompRest prog w A h₀ L m env elt x scope cl s S (fun i v => (as.map Value.ref).toArray[i]? = some v) Fin (as.map Value.ref).toArray.size 0 [] news := by
  rw [show (as.map Value.ref).toArray.size = as.length by simp]
  have key : ∀ (j i : Nat) (bs : List Addr) (ds : List Cel), i + j = as.length → bs.length = i → ds.length = i → bs.Nodup → (∀ p ∈ news, p.1 ∉ bs) → CelsOk ds → rowsOf ds = ((rowsOf cs).map G).take i →
      LCg.CompRest prog w A h₀ L m env elt x scope cl s S (fun i v => (as.map Value.ref).toArray[i]? = some v) Fin j i (bs.map Value.ref) (MatL bs ds ++ news) := by
    intro j
    induction j with
    | zero =>
      intro i bs ds hi hb hd hn ho hc hr
      refine LCg.CompRest.zero (fin bs ds (by omega) (by omega) hn ho hc ?_)
      rw [hr, List.take_of_length_le (by rw [List.length_map, rowsOf_length]; omega)]
    | succ j ih =>
      intro i bs ds hi hb hd hn ho hc hr
      refine LCg.CompRest.succ ?_
      intro v I oI C oC D m₂ h tk E' hv hC hx F N off ne
      have hia : i < as.length := by omega
      have e1 : as[i]? = some as[i] := List.getElem?_eq_getElem hia
      have e2 : cs[i]? = some cs[i] := List.getElem?_eq_getElem (by omega)
      have hv' : v = .ref as[i] := by
        simp only [List.getElem?_toArray, List.getElem?_map, e1, Option.map_some, Option.some.injEq] at hv
        exact hv.symm
      rw [hv'] at hx
      refine wpAny_mono (turn i as[i] cs[i] I oI C oC D m₂ _ bs ds h tk E' e1 e2 hC hx F N off ne) (fun y s₂ hq => ?_) fun _ _ e => e
      obtain ⟨h', tk', nw, e, F', N', off', hS', b, c', hy, hb', hc', hci, hn'⟩ := hq
      have sub : ∀ p ∈ MatL (bs ++ [b]) (ds ++ [c']) ++ news, p ∈ nw := fun p hp => by
        rw [matL_snoc (by omega)] at hp
        rw [hn']
        simp only [List.mem_append, List.mem_cons, List.not_mem_nil, or_false] at hp ⊢
        rcases hp with (hp | hp) | hp
        · exact .inr (.inl hp)
        · exact .inl hp
        · exact .inr (.inr hp)
      have sub2 : ∀ p ∈ nw, p ∈ MatL (bs ++ [b]) (ds ++ [c']) ++ news := fun p hp => by
        rw [matL_snoc (by omega)]
        rw [hn'] at hp
        simp only [List.mem_append, List.mem_cons, List.not_mem_nil, or_false] at hp ⊢
        rcases hp with hp | hp | hp
        · exact .inl (.inr hp)
        · exact .inl (.inl hp)
        · exact .inr hp
      have nb : b ∉ bs := fun hm => by
        obtain ⟨k, hk, he⟩ := List.getElem_of_mem hm
        have : (b, listOf (ds[k]'(by omega)).1.toArray (ds[k]'(by omega)).2.2) ∈ MatL bs ds := matL_mem (k := k) (by rw [List.getElem?_eq_getElem hk, he]) (List.getElem?_eq_getElem (by omega))
        exact hb' _ (List.mem_append_left _ this) rfl
      refine ⟨h', tk', MatL (bs ++ [b]) (ds ++ [c']) ++ news, e, F', fun p hp => N' p ?_, LCg.Off3.of fun p hp => off'.mem p (sub p hp), hS _ _ sub2 hS', ?_⟩
      · simp only [List.mem_cons] at hp ⊢
        rcases hp with hp | hp | hp | hp
        · exact .inl hp
        · exact .inr (.inl hp)
        · exact .inr (.inr (.inl hp))
        · exact .inr (.inr (.inr (sub p hp)))
      · have em : bs.map Value.ref ++ [y] = (bs ++ [b]).map Value.ref := by rw [hy, List.map_append]; rfl
        show LCg.CompRest prog w A h₀ L m env elt x scope cl s S _ Fin j (i + 1) (bs.map Value.ref ++ [y]) _
        rw [em]
        refine ih (i + 1) (bs ++ [b]) (ds ++ [c']) (by omega) (by rw [List.length_append, hb]; rfl) (by rw [List.length_append, hd]; rfl) ?_ ?_ ?_ ?_
        · exact List.nodup_append.mpr ⟨hn, List.nodup_cons.mpr ⟨List.not_mem_nil, List.nodup_nil⟩, fun p hp q hq => by
            rw [List.mem_singleton] at hq; rw [hq]; exact fun e => nb (e ▸ hp)⟩
        · intro p hp hm
          rcases List.mem_append.mp hm with hm | hm
          · exact ho p hp hm
          · exact hb' p (List.mem_append_right _ hp) (List.mem_singleton.mp hm)
        · intro c hcm
          rcases List.mem_append.mp hcm with hcm | hcm
          · exact hc c hcm
          · rw [List.mem_singleton.mp hcm]; exact hci
        · unfold rowsOf at hr ⊢
          rw [List.map_append, hr, List.take_add_one, List.getElem?_map, List.getElem?_map, e2]
          show _ ++ [c'.2.1] = _
          rw [hc']; rfl
  exact key as.length 0 [] [] (by omega) rfl rfl List.nodup_nil (fun _ _ h => nomatch h) (fun _ h => nomatch h) (by rw [List.take_zero]; rfl)
end
/-- the upper left part -/
noncomputable def subM (M : List (List Int)) (k : Nat) : List (List Int) := (M.take k).map (List.take k)
theorem subM_length {M : List (List Int)} {k : Nat} (h : k ≤ M.length) : (subM M k).length = k := by
  unfold subM; rw [List.length_map, List.length_take]; omega
theorem subM_square {M : List (List Int)} (hM : Square M) {k : Nat} (h : k ≤ M.length) : Square (subM M k) := by
  intro x hx
  rw [subM_length h]
  obtain ⟨y, hy, rfl⟩ := List.mem_map.mp hx
  rw [List.length_take, hM y (List.mem_of_mem_take hy)]; omega
theorem rowsOf_take (cs : List Cel) (k : Nat) : rowsOf (cs.take k) = (rowsOf cs).take k := by unfold rowsOf; rw [List.map_take]
theorem rowsOf_sub {cs ds : List Cel} {k : Nat} (h : rowsOf ds = (rowsOf (cs.take k)).map (List.take k)) : rowsOf ds = subM (rowsOf cs) k := by rw [h, rowsOf_take]; rfl
theorem matL_take : ∀ {as : List Addr} {cs : List Cel} {k : Nat}, ∀ p ∈ MatL (as.take k) (cs.take k), p ∈ MatL as cs
  | _ :: as, _ :: cs, k + 1, p, h => by
    rcases List.mem_cons.mp h with rfl | h
    · exact List.mem_cons_self
    · exact List.mem_cons_of_mem _ (matL_take p h)
  | [], _, k, p, h => by simp [MatL] at h
  | _ :: _, [], k, p, h => by cases k <;> simp [MatL] at h
  | _ :: _, _ :: _, 0, p, h => by simp [MatL] at h
theorem celsOk_take {cs : List Cel} (h : CelsOk cs) (k : Nat) : CelsOk (cs.take k) := fun c hc => h c (List.mem_of_mem_take hc)
theorem pick_refs (as : List Addr) {y : Int} (h : 0 ≤ y) : kms_pick (as.map Value.ref).toArray.toList none (some y) = (as.take y.toNat).map Value.ref := by
  unfold kms_pick
  simp only [kms_lo, kms_hi, if_neg (show ¬ y < 0 by omega), List.drop_zero, Nat.sub_zero]
  rw [kmk_take_min, List.map_take]
end Mine
end
section
open PySem PySem.W PyProof.Rows
namespace Mine
section
variable {prog : Program} {w : World} {A : Around} {E : Value → Shared → Prop} {s : Shared} {h₀ : Heap} {L : Addr} {m : Str → Option Value}
/-- a list of two: the second is set -/
theorem two_set {l : Addr} {a b v : Value} {n : Nat} {rest : List (Addr × Obj)} {t : Tok} {Q : Unit → Shared → Prop} (F : Fr h₀ L s.heap m) (N : News h₀ L s.heap ((l, listOf #[a, b] n) :: rest)) (hoff : ∀ p ∈ rest, p.1 ≠ l)
    (h : ∀ h', Fr h₀ L h' m → News h₀ L h' ((l, listOf #[a, v] n) :: rest) → Q () { s with heap := h' }) :
    wpAny (model prog w) A (setItem (.ref l) (.int 1 t) v) Q E s := by
  have z := N (l, listOf #[a, b] n) List.mem_cons_self
  refine ki_setAt z.1 (by decide) (by decide) (by simp) (h _ (F.change (Heap.SameBut.update ..) z.2.1 z.2.2) ?_)
  exact ki_turn (pre := []) _ N (fun _ h => nomatch h) hoff rfl rfl
end
end Mine
namespace Mine
section
variable {prog : Program} {w : World} {A : Around} {E : Value → Shared → Prop} {s : Shared} {h₀ : Heap} {env : Env} {x : Str} {body : List Stmt} {Q : Flow → Shared → Prop}
inductive GEnd (h₀ : Heap) (L : Addr) (J : (Str → Option Value) → List (Addr × Obj) → Prop) (I : Addr) (oI : Obj) (s₁ s₂ : Shared) : Prop
  | mk (h' : _) (tk : _) (m' : _) (nx : _)
    (c0 : s₂ = { s₁ with heap := h', toks := tk })
    (c1 : Fr h₀ L h' m')
    (c2 : News h₀ L h' ((I, oI) :: nx))
    (c3 : (∀ p ∈ nx, p.1 ≠ I))
    (c4 : J m' nx) : GEnd h₀ L J I oI s₁ s₂
noncomputable def GPost (h₀ : Heap) (L : Addr) (J : (Str → Option Value) → List (Addr × Obj) → Prop) (I : Addr) (oI : Obj) (s₁ : Shared) (Q : Flow → Shared → Prop) (f : Flow) (s₂ : Shared) : Prop :=
  match f with
  | .ret v => Q (.ret v) s₂
  | .brk => Q .next s₂
  | _ => GEnd h₀ L J I oI s₁ s₂
theorem gend_intro {L : Addr} {J : (Str → Option Value) → List (Addr × Obj) → Prop} {I : Addr} {oI : Obj} {s₁ : Shared} {h' : Heap} {tk : Nat} {m' : Str → Option Value} {nx : List (Addr × Obj)} (F : Fr h₀ L h' m') (N : News h₀ L h' ((I, oI) :: nx)) (ho : ∀ p ∈ nx, p.1 ≠ I) (hj : J m' nx) :
    GEnd h₀ L J I oI s₁ { s₁ with heap := h', toks := tk } := ⟨h', tk, m', nx, rfl, F, N, ho, hj⟩
/-- a for over a range whose turns may make objects that stay -/
theorem range_grow {r : Addr} {a₀ b₀ : Int} {t₀ u₀ v₀ : Tok} {n : Nat} {m₀ : Str → Option Value} {news : List (Addr × Obj)} (J : Nat → (Str → Option Value) → List (Addr × Obj) → Prop)
    (hh : A.handled = none) (hr : IsRange s.heap r a₀ b₀ 1 t₀ u₀ v₀) (hsmall : Builtin.Range.small a₀ b₀ 1 = true) (hn : Builtin.Range.rangeSize a₀ b₀ 1 = (n : Int)) (F : Fr h₀ env.locals s.heap m₀) (N : News h₀ env.locals s.heap news) (hj : J 0 m₀ news)
    (turn : ∀ (i : Nat) (t : Tok) (I : Addr) (oI : Obj) m₁ nx h tk, i < n → J i m₁ nx → (∀ p ∈ nx, p.1 ≠ I) → Fr h₀ env.locals h (fun y => if y = x then some (.int (a₀ + (i : Int)) t) else m₁ y) → News h₀ env.locals h ((I, oI) :: nx) →
      wpAny (model prog w) A (execs body env) (GPost h₀ env.locals (J (i + 1)) I oI { s with heap := h, toks := tk } Q) E { s with heap := h, toks := tk })
    (done : ∀ m₁ nx h tk, J n m₁ nx → Fr h₀ env.locals h m₁ → News h₀ env.locals h nx → Q .next { s with heap := h, toks := tk }) :
    wpAny (model prog w) A (pyIter (.ref r)) (fun it s₂ => LoopAtV prog w A h₀ env x body Q E it s₂) E s := by
  refine wpAny_pyIter_range hr hsmall ?_
  have W : Walks prog w A s.heap.objs.size [s.heap.objs.size] [s.heap.objs.size] n (fun i v => i < n ∧ ∃ t, v = .int (a₀ + i * 1) t)
      (fun i h => IsRangeIter h s.heap.objs.size (a₀ + (i : Nat) * 1) ((n : Int) - (i : Nat)) 1) := (Walks.range hh _ a₀ 1 n).bound
  refine ⟨s.heap.objs.size, _, _, n, _, _, m₀, news, J, rfl, W, ?_, ?_, ?_, (by show IsRangeIter _ _ _ _ _; rw [hn]; simpa using Heap.get?_push_size _ rfl), F.push _, (fun p hp => ⟨Heap.get?_push_of_some _ (N p hp).1, (N p hp).2⟩), hj, ?_, ?_⟩
  · intro hm
    exact absurd F.ns.lt ((List.mem_singleton.mp hm) ▸ Nat.lt_irrefl _)
  · intro b hb
    rw [List.mem_singleton.mp hb]
    exact next_is_new F
  · intro p hp hI
    exact absurd (Heap.lt_size (N p hp).1) ((List.mem_singleton.mp hI) ▸ Nat.lt_irrefl _)
  · rintro i v m₁ nx s₁ own ⟨hh', tk', rfl⟩ hin ⟨_, t, rfl⟩ hJ hoff hown hget hall hst F₁ N₁
    have e1 : a₀ + (i : Int) * 1 = a₀ + (i : Int) := by omega
    rw [e1] at F₁
    obtain ⟨oI, hst'⟩ : ∃ o, hh'.get? s.heap.objs.size = some o := ⟨_, hst⟩
    have hIn := hall _ (List.mem_singleton.mpr rfl) (next_is_new F) _ hst'
    have hne : ∀ p ∈ nx, p.1 ≠ s.heap.objs.size := fun p hp e => hoff p hp (List.mem_singleton.mpr e)
    have N₂ : News h₀ env.locals hh' ((s.heap.objs.size, oI) :: nx) := fun p hp => by
      rcases List.mem_cons.mp hp with rfl | hp
      · exact N₁ _ (List.mem_append_left _ hIn)
      · exact N₁ p (List.mem_append_right _ hp)
    refine wpAny_mono (turn i t _ oI m₁ nx hh' tk' hin hJ hne F₁ N₂) (fun f s₂ p => ?_) fun _ _ e => e
    have fin : GEnd h₀ env.locals (J (i + 1)) s.heap.objs.size oI { s with heap := hh', toks := tk' } s₂ → LoopStepU h₀ env.locals [s.heap.objs.size] own (J (i + 1)) { s with heap := hh', toks := tk' } .next s₂ := by
      rintro ⟨h', tk, m', nx', e, F', N', ho, hm⟩
      refine ⟨rfl, h', tk, m', nx', e, F', fun p hp => ?_, fun p hp hq => ho p hp (List.mem_singleton.mp hq), hm⟩
      rcases List.mem_append.mp hp with hp | hp
      · have hp1 := List.mem_singleton.mp (hown p hp)
        have hp2 := hget p hp
        rw [hp1] at hp2
        change hh'.get? s.heap.objs.size = some p.2 at hp2
        rw [hst'] at hp2
        have e2 : p = (s.heap.objs.size, oI) := Prod.ext hp1 (Option.some.inj hp2).symm
        rw [e2]
        exact N' _ List.mem_cons_self
      · exact N' p (List.mem_cons_of_mem _ hp)
    cases f with
    | ret v => exact .ret p
    | brk => exact .brk p
    | next => exact .next (fin p)
    | cont => exact .cont (fin p)
  · rintro h' tk m' news' F' N' _ hJ
    exact done m' news' h' tk hJ F' N'
end
end Mine
namespace Mine
section
variable {prog : Program} {w : World} {A : Around} {E : Value → Shared → Prop} {s : Shared} {h₀ : Heap} {env : Env} {x : Str} {body : List Stmt} {Q : Flow → Shared → Prop} {σ : Type}
inductive SGEnd (h₀ : Heap) (L : Addr) (Led : σ → List (Addr × Obj)) (ps : σ → List (Str × Value)) (stored : List Str) (x : Str) (m₀ : Str → Option Value) (P : σ → Prop) (I : Addr) (oI : Obj) (s₁ s₂ : Shared) : Prop
  | mk (c : _) (h' : _) (tk : _) (m' : _)
    (c0 : s₂ = { s₁ with heap := h', toks := tk })
    (c1 : Fr h₀ L h' m')
    (c2 : News h₀ L h' ((I, oI) :: Led c))
    (c3 : (∀ p ∈ Led c, p.1 ≠ I))
    (c4 : (∀ p ∈ ps c, m' p.1 = some p.2))
    (c5 : (∀ z, z ≠ x → (∀ p ∈ ps c, z ≠ p.1) → stored.contains z = false → m' z = m₀ z))
    (c6 : P c) : SGEnd h₀ L Led ps stored x m₀ P I oI s₁ s₂
noncomputable def SGPost (h₀ : Heap) (L : Addr) (Led : σ → List (Addr × Obj)) (ps : σ → List (Str × Value)) (stored : List Str) (x : Str) (m₀ : Str → Option Value) (P : σ → Prop) (I : Addr) (oI : Obj) (s₁ : Shared) (Q : Flow → Shared → Prop) (f : Flow) (s₂ : Shared) : Prop :=
  match f with
  | .ret v => Q (.ret v) s₂
  | .brk => Q .next s₂
  | _ => SGEnd h₀ L Led ps stored x m₀ P I oI s₁ s₂
theorem sgend_intro {L : Addr} {Led : σ → List (Addr × Obj)} {ps : σ → List (Str × Value)} {stored : List Str} {m₀ : Str → Option Value} {P : σ → Prop} {I : Addr} {oI : Obj} {s₁ : Shared} (c : σ) {h' : Heap} {tk : Nat} {m' : Str → Option Value} (F : Fr h₀ L h' m') (N : News h₀ L h' ((I, oI) :: Led c)) (ho : ∀ p ∈ Led c, p.1 ≠ I)
    (h1 : ∀ p ∈ ps c, m' p.1 = some p.2) (hz : ∀ z, z ≠ x → (∀ p ∈ ps c, z ≠ p.1) → stored.contains z = false → m' z = m₀ z) (hp : P c) : SGEnd h₀ L Led ps stored x m₀ P I oI s₁ { s₁ with heap := h', toks := tk } := ⟨c, h', tk, m', rfl, F, N, ho, h1, hz, hp⟩
/-- the same, its state told -/
theorem grow_range {r : Addr} {a₀ b₀ : Int} {t₀ u₀ v₀ : Tok} {n : Nat} {m₀ : Str → Option Value} (Led : σ → List (Addr × Obj)) (ps : σ → List (Str × Value)) (stored : List Str) (P : Nat → σ → Prop) (c₀ : σ)
    (hh : A.handled = none) (hr : IsRange s.heap r a₀ b₀ 1 t₀ u₀ v₀) (hsmall : Builtin.Range.small a₀ b₀ 1 = true) (hn : Builtin.Range.rangeSize a₀ b₀ 1 = (n : Int)) (F : Fr h₀ env.locals s.heap m₀) (N : News h₀ env.locals s.heap (Led c₀)) (hk : ∀ p ∈ ps c₀, m₀ p.1 = some p.2) (hp : P 0 c₀)
    (turn : ∀ (c : σ) (i : Nat) (t : Tok) (I : Addr) (oI : Obj) (u : Str → Option Value) h tk, i < n → P i c → (∀ p ∈ Led c, p.1 ≠ I) → Fr h₀ env.locals h (fun y => if y = x then some (.int (a₀ + (i : Int)) t) else kstB (fun z => if stored.contains z then u z else m₀ z) (ps c) y) → News h₀ env.locals h ((I, oI) :: Led c) →
      wpAny (model prog w) A (execs body env) (SGPost h₀ env.locals Led ps stored x m₀ (P (i + 1)) I oI { s with heap := h, toks := tk } Q) E { s with heap := h, toks := tk })
    (done : ∀ (c : σ) (u : Str → Option Value) h tk, P n c → Fr h₀ env.locals h (fun y => if y = x then u y else kstB (fun z => if stored.contains z then u z else m₀ z) (ps c) y) → News h₀ env.locals h (Led c) → Q .next { s with heap := h, toks := tk }) :
    wpAny (model prog w) A (pyIter (.ref r)) (fun it s₂ => LoopAtV prog w A h₀ env x body Q E it s₂) E s := by
  refine range_grow (fun i m nx => ∃ c, nx = Led c ∧ (∀ p ∈ ps c, m p.1 = some p.2) ∧ (∀ z, z ≠ x → (∀ p ∈ ps c, z ≠ p.1) → stored.contains z = false → m z = m₀ z) ∧ P i c) hh hr hsmall hn F N ⟨c₀, rfl, hk, fun _ _ _ _ => rfl, hp⟩ ?_ ?_
  · rintro i t I oI m₁ nx h tk hi ⟨c, rfl, h1, h2, hp'⟩ ho F₁ N₁
    refine wpAny_mono (turn c i t I oI m₁ h tk hi hp' ho (kst_fr h1 h2 F₁) N₁) (fun f s₂ p => ?_) fun _ _ e => e
    have up : SGEnd h₀ env.locals Led ps stored x m₀ (P (i + 1)) I oI { s with heap := h, toks := tk } s₂ → GEnd h₀ env.locals (fun m nx => ∃ c, nx = Led c ∧ (∀ p ∈ ps c, m p.1 = some p.2) ∧ (∀ z, z ≠ x → (∀ p ∈ ps c, z ≠ p.1) → stored.contains z = false → m z = m₀ z) ∧ P (i + 1) c) I oI { s with heap := h, toks := tk } s₂ := by
      rintro ⟨c', h', tk', m', e, F', N', ho', h1', h2', hp2⟩
      exact ⟨h', tk', m', Led c', e, F', N', ho', c', rfl, h1', h2', hp2⟩
    cases f with
    | ret v => exact p
    | brk => exact p
    | next => exact up p
    | cont => exact up p
  · rintro m₁ nx h tk ⟨c, rfl, h1, h2, hp'⟩ F₁ N₁
    exact done c m₁ h tk hp' (kst_frOut h1 h2 F₁) N₁
/-- found.append(a ref) -/
theorem ref_push (as : List Addr) (r : Addr) : (as.map Value.ref).toArray.push (.ref r) = ((as ++ [r]).map Value.ref).toArray := by simp
end
end Mine
namespace Mine
theorem pair_off {P l : Addr} {o : Obj} {rest : List (Addr × Obj)} (h : P < l ∧ AllLt l rest) (hoff : ∀ p ∈ rest, p.1 ≠ P) : ∀ p ∈ (l, o) :: rest, p.1 ≠ P := fun p hp => by
  rcases List.mem_cons.mp hp with rfl | hp
  · exact Nat.ne_of_gt h.1
  · exact hoff p hp
noncomputable abbrev PSt := Nat × Tok × List Addr × List Cel × Nat × Int × Tok
noncomputable abbrev LedP (P Sl : Addr) (np : Nat) (Fd : Addr) (rest : List (Addr × Obj)) (c : PSt) : List (Addr × Obj) :=
  (P, listOf #[.ref Sl, .int (c.1 : Int) c.2.1] np) :: (Fd, listOf (c.2.2.1.map Value.ref).toArray c.2.2.2.2.1) :: (MatL c.2.2.1 c.2.2.2.1 ++ rest)
noncomputable abbrev PsP (c : PSt) : List (Str × Value) := [(Str.ofString "n", .int c.2.2.2.2.2.1 c.2.2.2.2.2.2)]
/-- what holds between the turns: the state is S -/
structure PInv (P Fd : Addr) (rest : List (Addr × Obj)) (S : Nat × List (List Int) × Int) (c : PSt) : Prop where
  k : c.1 = S.1
  rows : rowsOf c.2.2.2.1 = S.2.1
  n : c.2.2.2.2.2.1 = S.2.2
  len : c.2.2.2.1.length = c.2.2.1.length
  ok : CelsOk c.2.2.2.1
  nodup : c.2.2.1.Nodup
  fd : Fd ∉ c.2.2.1
  p : P ∉ c.2.2.1
  pf : P ≠ Fd
  rest : ∀ p ∈ rest, p.1 ∉ c.2.2.1 ∧ p.1 ≠ Fd
  sz : c.2.2.1.length ≤ S.1
theorem PInv.start {P Fd : Addr} {rest : List (Addr × Obj)} {k : Nat} {tk tn : Tok} (h : P < Fd ∧ AllLt Fd rest) : PInv P Fd rest (k, [], 0) (k, tk, [], [], 0, 0, tn) :=
  ⟨rfl, rfl, rfl, rfl, (fun _ h => nomatch h), List.nodup_nil, List.not_mem_nil, List.not_mem_nil, Nat.ne_of_lt h.1, (fun p hp => ⟨List.not_mem_nil, Nat.ne_of_lt (ktn_ltOf h.2 p hp)⟩), Nat.zero_le _⟩
theorem PInv.off {P Sl Fd I : Addr} {np : Nat} {oI : Obj} {rest : List (Addr × Obj)} {S : Nat × List (List Int) × Int} {c : PSt} (h : PInv P Fd rest S c) (hr : ∀ p ∈ rest, p.1 ≠ P) (ho : ∀ p ∈ LedP P Sl np Fd rest c, p.1 ≠ I) :
    ∀ p ∈ (I, oI) :: (Fd, listOf (c.2.2.1.map Value.ref).toArray c.2.2.2.2.1) :: (MatL c.2.2.1 c.2.2.2.1 ++ rest), p.1 ≠ P := fun p hp => by
  rcases List.mem_cons.mp hp with rfl | hp
  · exact Ne.symm (ho _ List.mem_cons_self)
  · rcases List.mem_cons.mp hp with rfl | hp
    · exact Ne.symm h.pf
    · rcases List.mem_append.mp hp with hp | hp
      · exact fun e => h.p (e ▸ matL_in p hp)
      · exact hr p hp
end Mine
namespace Mine
section
variable {prog : Program} {w : World} {A : Around} {E : Value → Shared → Prop} {s : Shared} {h₀ : Heap} {L : Addr} {m : Str → Option Value}
theorem ref_append {l r : Addr} {as : List Addr} {n : Nat} {rest : List (Addr × Obj)} {Q : Value → Shared → Prop} (F : Fr h₀ L s.heap m) (N : News h₀ L s.heap ((l, listOf (as.map Value.ref).toArray n) :: rest)) (hoff : ∀ p ∈ rest, p.1 ≠ l) (hsz : as.length ≤ 1000)
    (h : ∀ h', Fr h₀ L h' m → News h₀ L h' ((l, listOf ((as ++ [r]).map Value.ref).toArray (n + 1)) :: rest) → Q .none { s with heap := h' }) :
    wpAny (model prog w) A (call (.builtin "list.append") [.ref l, .ref r]) Q E s := by
  have z := N (l, listOf (as.map Value.ref).toArray n) List.mem_cons_self
  refine append_at (hsz := by rw [List.size_toArray, List.length_map, PySem.sizeLine_eq]; omega) z.1 fun h' hs ho' => h h' (F.change hs z.2.1 z.2.2) ?_
  rw [← ref_push]
  exact news_set (pre := []) N (fun _ h => nomatch h) hoff hs ho'
end
theorem mat_off {D : Addr} {as : List Addr} {cs : List Cel} (hl : cs.length = as.length) (h : ∀ p ∈ MatL as cs, p.1 ≠ D) : D ∉ as := fun hm => by
  rw [← matL_fst hl] at hm
  obtain ⟨p, hp, e⟩ := List.mem_map.mp hm
  exact h p hp e
theorem parts_apart {P Fd I D T : Addr} {oP oF o o2 oI : Obj} {rest : List (Addr × Obj)} {S : Nat × List (List Int) × Int} {k2 nf2 : Nat} {tk2 tn2 : Tok} {as2 : List Addr} {cs2 : List Cel} {n2 : Int} (hp : PInv P Fd rest S (k2, tk2, as2, cs2, nf2, n2, tn2))
    (hI : ∀ p ∈ (P, oP) :: (Fd, oF) :: (MatL as2 cs2 ++ rest), p.1 ≠ I) (hl : T < D ∧ P < D ∧ I < D ∧ Fd < D ∧ AllLt D (MatL as2 cs2 ++ rest)) :
    ∀ p ∈ (D, o) :: (P, o2) :: (I, oI) :: (MatL as2 cs2 ++ rest), p.1 ≠ Fd := fun p hm => by
  rcases List.mem_cons.mp hm with rfl | hm
  · exact Nat.ne_of_gt hl.2.2.2.1
  · rcases List.mem_cons.mp hm with rfl | hm
    · exact hp.pf
    · rcases List.mem_cons.mp hm with rfl | hm
      · exact Ne.symm (hI (Fd, oF) (List.mem_cons_of_mem _ List.mem_cons_self))
      · rcases List.mem_append.mp hm with hm | hm
        · exact fun e => hp.fd (e ▸ matL_in p hm)
        · exact (hp.rest p hm).2
theorem parts_off {P Fd I D T : Addr} {oP oF oP' oF' : Obj} {rest : List (Addr × Obj)} {as2 : List Addr} {cs2 : List Cel} {c' : Cel} (hlen : cs2.length = as2.length)
    (hI : ∀ p ∈ (P, oP) :: (Fd, oF) :: (MatL as2 cs2 ++ rest), p.1 ≠ I) (hl : T < D ∧ P < D ∧ I < D ∧ Fd < D ∧ AllLt D (MatL as2 cs2 ++ rest)) :
    ∀ p ∈ (P, oP') :: (Fd, oF') :: (MatL (as2 ++ [D]) (cs2 ++ [c']) ++ rest), p.1 ≠ I := fun p hm => by
  rcases List.mem_cons.mp hm with rfl | hm
  · exact hI (P, oP) List.mem_cons_self
  · rcases List.mem_cons.mp hm with rfl | hm
    · exact hI (Fd, oF) (List.mem_cons_of_mem _ List.mem_cons_self)
    · rw [matL_snoc hlen.symm] at hm
      rcases List.mem_append.mp hm with hm | hm
      · rcases List.mem_append.mp hm with hm | hm
        · exact hI p (List.mem_cons_of_mem _ (List.mem_cons_of_mem _ (List.mem_append_left _ hm)))
        · rw [List.mem_singleton.mp hm]; exact Nat.ne_of_gt hl.2.2.1
      · exact hI p (List.mem_cons_of_mem _ (List.mem_cons_of_mem _ (List.mem_append_right _ hm)))
theorem parts_push {P Fd I D T : Addr} {rest : List (Addr × Obj)} {S S' : Nat × List (List Int) × Int} {k2 nf2 : Nat} {tk2 tn2 tk3 tn3 : Tok} {as2 : List Addr} {cs2 : List Cel} {n2 n3 : Int} {c' : Cel} (hp : PInv P Fd rest S (k2, tk2, as2, cs2, nf2, n2, tn2))
    (hl : T < D ∧ P < D ∧ I < D ∧ Fd < D ∧ AllLt D (MatL as2 cs2 ++ rest)) (hi : IntsAre c'.1 c'.2.1) (e : S' = (k2 + 3, S.2.1 ++ [c'.2.1], n3)) : PInv P Fd rest S' (k2 + 3, tk3, as2 ++ [D], cs2 ++ [c'], nf2 + 1, n3, tn3) := by
  subst e
  have hlt := ktn_ltOf hl.2.2.2.2
  have hD : D ∉ as2 := mat_off hp.len fun p hm => Nat.ne_of_lt (hlt p (List.mem_append_left _ hm))
  refine ⟨rfl, ?_, rfl, ?_, ?_, ?_, ?_, ?_, hp.pf, ?_, ?_⟩
  · show rowsOf (cs2 ++ [c']) = S.2.1 ++ [c'.2.1]
    unfold rowsOf
    rw [List.map_append]
    exact congrArg (· ++ [c'.2.1]) hp.rows
  · show (cs2 ++ [c']).length = (as2 ++ [D]).length
    rw [List.length_append, List.length_append, show cs2.length = as2.length from hp.len]; rfl
  · intro c hc
    rcases List.mem_append.mp hc with hc | hc
    · exact hp.ok c hc
    · rw [List.mem_singleton.mp hc]; exact hi
  · exact List.nodup_append.mpr ⟨hp.nodup, List.nodup_cons.mpr ⟨List.not_mem_nil, List.nodup_nil⟩, fun a ha b hb => by
      rw [List.mem_singleton.mp hb]; exact fun e => hD (e ▸ ha)⟩
  · intro hm
    rcases List.mem_append.mp hm with hm | hm
    · exact hp.fd hm
    · exact Nat.ne_of_lt hl.2.2.2.1 (List.mem_singleton.mp hm)
  · intro hm
    rcases List.mem_append.mp hm with hm | hm
    · exact hp.p hm
    · exact Nat.ne_of_lt hl.2.1 (List.mem_singleton.mp hm)
  · intro p hm
    refine ⟨fun h => ?_, (hp.rest p hm).2⟩
    rcases List.mem_append.mp h with h | h
    · exact (hp.rest p hm).1 h
    · exact Nat.ne_of_lt (hlt p (List.mem_append_right _ hm)) (List.mem_singleton.mp h)
  · show (as2 ++ [D]).length ≤ k2 + 3
    have h1 : as2.length ≤ S.1 := hp.sz
    have h2 : k2 = S.1 := hp.k
    rw [List.length_append, List.length_singleton]; omega
theorem parts_same {P Fd : Addr} {rest : List (Addr × Obj)} {S S' : Nat × List (List Int) × Int} {k2 nf2 : Nat} {tk2 tn2 tk3 tn3 : Tok} {as2 : List Addr} {cs2 : List Cel} {n2 : Int} (hp : PInv P Fd rest S (k2, tk2, as2, cs2, nf2, n2, tn2)) (e : S' = (k2 + 3, S.2.1, S.2.2)) : PInv P Fd rest S' (k2 + 3, tk3, as2, cs2, nf2, n2, tn3) := by
  subst e
  refine ⟨rfl, hp.rows, hp.n, hp.len, hp.ok, hp.nodup, hp.fd, hp.p, hp.pf, hp.rest, ?_⟩
  show as2.length ≤ k2 + 3
  have h1 : as2.length ≤ S.1 := hp.sz
  have h2 : k2 = S.1 := hp.k
  omega
theorem ledP_push {h₀ h : Heap} {L P Sl Fd I D : Addr} {np nf nd k : Nat} {tk tn : Tok} {n : Int} {oI : Obj} {rest : List (Addr × Obj)} {as2 : List Addr} {cs2 : List Cel} {its : List Value} (xs : List Int) (hlen : cs2.length = as2.length)
    (N : News h₀ L h ((Fd, listOf ((as2 ++ [D]).map Value.ref).toArray (nf + 1)) :: (D, listOf its.toArray nd) :: (P, listOf #[.ref Sl, .int (k : Int) tk] np) :: (I, oI) :: (MatL as2 cs2 ++ rest))) :
    News h₀ L h ((I, oI) :: LedP P Sl np Fd rest (k, tk, as2 ++ [D], cs2 ++ [(its, xs, nd)], nf + 1, n, tn)) := kst_newsOf N fun p hp => by
  dsimp only [LedP] at hp
  rw [matL_snoc hlen.symm] at hp
  simp only [List.mem_cons, List.mem_append, List.not_mem_nil, or_false] at hp ⊢
  rcases hp with hp | hp | hp | (hp | hp) | hp
  · exact .inr (.inr (.inr (.inl hp)))
  · exact .inr (.inr (.inl hp))
  · exact .inl hp
  · exact .inr (.inr (.inr (.inr (.inl hp))))
  · exact .inr (.inl hp)
  · exact .inr (.inr (.inr (.inr (.inr hp))))
theorem same_off {P Fd I : Addr} {oP oF oP' : Obj} {R : List (Addr × Obj)} (hI : ∀ p ∈ (P, oP) :: (Fd, oF) :: R, p.1 ≠ I) : ∀ p ∈ (P, oP') :: (Fd, oF) :: R, p.1 ≠ I := fun p hm => by
  rcases List.mem_cons.mp hm with rfl | hm
  · exact hI (P, oP) List.mem_cons_self
  · exact hI p (List.mem_cons_of_mem _ hm)
end Mine
namespace Mine
section
variable {M : Model} {A : Around} {E : Value → Shared → Prop} {s : Shared} {h₀ : Heap} {env : Env} {m : Str → Option Value}
/-- a name that is a cell is bound -/
theorem cell_set {n : Str} {c : Addr} {o : Obj} {v₀ : Option Value} {v : Value} (v' : Value) {rest : List (Addr × Obj)} {Q : Unit → Shared → Prop} (F : Fr h₀ env.locals s.heap m) (N : News h₀ env.locals s.heap ((c, o) :: rest)) (hoff : ∀ p ∈ rest, p.1 ≠ c) (hd : o.data = .cell v₀) (hc : env.cells.lookup n = some c) (hv : v = v')
    (h : ∀ h' o', o'.data = .cell (some v') → Fr h₀ env.locals h' m → News h₀ env.locals h' ((c, o') :: rest) → Q () { s with heap := h' }) (hk : env.scope.kind = .function) (hl : env.kindOf n = some .cell) :
    wpAny M A (storeName env n v) Q E s := by
  subst hv
  have z := N (c, o) List.mem_cons_self
  refine wpAny_storeName_cell hk hl hc ⟨o, z.1, hd⟩ fun h' hc' hs' => ?_
  obtain ⟨o', ho', hd'⟩ := hc'
  exact h h' o' hd' (F.change hs' z.2.1 z.2.2) (news_set (pre := []) N (fun _ h => nomatch h) hoff hs' ho')
end
section
variable {prog : Program} {w : World} {A : Around} {E : Value → Shared → Prop} {s : Shared} {h₀ : Heap} {L : Addr} {m : Str → Option Value}
theorem int_append {l : Addr} {its : List Value} {xs : List Int} {n : Nat} {v : Int} {t : Tok} {rest : List (Addr × Obj)} {Q : Value → Shared → Prop} (F : Fr h₀ L s.heap m) (N : News h₀ L s.heap ((l, listOf its.toArray n) :: rest)) (hoff : ∀ p ∈ rest, p.1 ≠ l) (hi : IntsAre its xs) (hsz : xs.length ≤ 1000)
    (h : ∀ h', Fr h₀ L h' m → News h₀ L h' ((l, listOf (its ++ [Value.int v t]).toArray (n + 1)) :: rest) → IntsAre (its ++ [Value.int v t]) (xs ++ [v]) → Q .none { s with heap := h' }) :
    wpAny (model prog w) A (call (.builtin "list.append") [.ref l, .int v t]) Q E s := by
  have z := N (l, listOf its.toArray n) List.mem_cons_self
  refine append_at (hsz := by rw [List.size_toArray, hi.length, PySem.sizeLine_eq]; omega) z.1 fun h' hs ho' => h h' (F.change hs z.2.1 z.2.2) ?_ (IntsAre.append hi (.cons _ _ .nil))
  have e : listOf (its.toArray.push (Value.int v t)) (n + 1) = listOf (its ++ [Value.int v t]).toArray (n + 1) := by rw [List.push_toArray]
  rw [← e]
  exact news_set (pre := []) N (fun _ h => nomatch h) hoff hs ho'
end
noncomputable abbrev RSt := List Addr × List Cel × Nat × Obj × Obj
noncomputable abbrev LedR (Fd C4 C3 : Addr) (rest : List (Addr × Obj)) (c : RSt) : List (Addr × Obj) :=
  (Fd, listOf (c.1.map Value.ref).toArray c.2.2.1) :: (C4, c.2.2.2.1) :: (C3, c.2.2.2.2) :: (MatL c.1 c.2.1 ++ rest)
/-- what holds between the outer turns of _law_rows -/
structure RInv (Fd C4 C3 : Addr) (rest : List (Addr × Obj)) (rows : List (List Int)) (c : RSt) : Prop where
  rows : rowsOf c.2.1 = rows
  len : c.2.1.length = c.1.length
  ok : CelsOk c.2.1
  nodup : c.1.Nodup
  fd : Fd ∉ c.1
  c4 : C4 ∉ c.1
  c3 : C3 ∉ c.1
  f4 : Fd ≠ C4
  f3 : Fd ≠ C3
  c43 : C4 ≠ C3
  rest : ∀ p ∈ rest, p.1 ∉ c.1 ∧ p.1 ≠ Fd ∧ p.1 ≠ C4 ∧ p.1 ≠ C3
  d4 : ∃ v, c.2.2.2.1.data = .cell v
  d3 : ∃ v, c.2.2.2.2.data = .cell v
theorem RInv.start {Fd C4 C3 : Addr} {rest : List (Addr × Obj)} {o4 o3 : Obj} {v4 v3 : Option Value} (h : ∀ p ∈ (C4, o4) :: (C3, o3) :: rest, p.1 ≠ Fd) (h4 : ∀ p ∈ (C3, o3) :: rest, p.1 ≠ C4) (h3 : ∀ p ∈ rest, p.1 ≠ C3) (d4 : o4.data = .cell v4) (d3 : o3.data = .cell v3) : RInv Fd C4 C3 rest [] ([], [], 0, o4, o3) :=
  ⟨rfl, rfl, (fun _ h => nomatch h), List.nodup_nil, List.not_mem_nil, List.not_mem_nil, List.not_mem_nil, Ne.symm (h (C4, o4) List.mem_cons_self), Ne.symm (h (C3, o3) (List.mem_cons_of_mem _ List.mem_cons_self)), Ne.symm (h4 (C3, o3) List.mem_cons_self),
    fun p hp => ⟨List.not_mem_nil, h p (List.mem_cons_of_mem _ (List.mem_cons_of_mem _ hp)), h4 p (List.mem_cons_of_mem _ hp), h3 p hp⟩, ⟨_, d4⟩, ⟨_, d3⟩⟩
section
variable {Fd C4 C3 I R : Addr} {rest own : List (Addr × Obj)} {rows : List (List Int)} {as : List Addr} {cs : List Cel} {nf : Nat} {o4 o3 oF o4' o3' oR oI : Obj}
theorem RInv.push (h : RInv Fd C4 C3 rest rows (as, cs, nf, o4, o3)) (hl : I < R ∧ Fd < R ∧ C4 < R ∧ C3 < R ∧ AllLt R (MatL as cs ++ rest)) {c' : Cel} (hi : IntsAre c'.1 c'.2.1) (d4 : ∃ v, o4'.data = .cell v) (d3 : ∃ v, o3'.data = .cell v) (e : rows ++ [c'.2.1] = rows') :
    RInv Fd C4 C3 rest rows' (as ++ [R], cs ++ [c'], nf + 1, o4', o3') := by
  subst e
  have hlt := ktn_ltOf hl.2.2.2.2
  have hD : R ∉ as := mat_off h.len fun p hm => Nat.ne_of_lt (hlt p (List.mem_append_left _ hm))
  have nin : ∀ {x : Addr}, x ∉ as → x < R → x ∉ as ++ [R] := fun h1 h2 hm => by
    rcases List.mem_append.mp hm with hm | hm
    · exact h1 hm
    · exact Nat.ne_of_lt h2 (List.mem_singleton.mp hm)
  refine ⟨?_, ?_, ?_, ?_, nin h.fd hl.2.1, nin h.c4 hl.2.2.1, nin h.c3 hl.2.2.2.1, h.f4, h.f3, h.c43, fun p hp => ⟨nin (h.rest p hp).1 (hlt p (List.mem_append_right _ hp)), (h.rest p hp).2⟩, d4, d3⟩
  · show rowsOf (cs ++ [c']) = rows ++ [c'.2.1]
    unfold rowsOf
    rw [List.map_append]
    exact congrArg (· ++ [c'.2.1]) h.rows
  · show (cs ++ [c']).length = (as ++ [R]).length
    rw [List.length_append, List.length_append, show cs.length = as.length from h.len]; rfl
  · intro c hc
    rcases List.mem_append.mp hc with hc | hc
    · exact h.ok c hc
    · rw [List.mem_singleton.mp hc]; exact hi
  · exact List.nodup_append.mpr ⟨h.nodup, List.nodup_cons.mpr ⟨List.not_mem_nil, List.nodup_nil⟩, fun a ha b hb => by
      rw [List.mem_singleton.mp hb]; exact fun e => hD (e ▸ ha)⟩
/-- the other objects within an outer turn -/
theorem RInv.offs (h : RInv Fd C4 C3 rest rows (as, cs, nf, o4, o3)) (hI : ∀ p ∈ LedR Fd C4 C3 rest (as, cs, nf, o4, o3), p.1 ≠ I) (hl : I < R ∧ Fd < R ∧ C4 < R ∧ C3 < R ∧ AllLt R (MatL as cs ++ rest)) :
    (∀ {oI oF : Obj}, ∀ p ∈ (I, oI) :: (Fd, oF) :: (MatL as cs ++ rest), p.1 ≠ R ∧ p.1 ≠ C4 ∧ p.1 ≠ C3) ∧ (∀ {oR o4' o3' oI : Obj}, ∀ p ∈ (R, oR) :: (C4, o4') :: (C3, o3') :: (I, oI) :: (MatL as cs ++ rest), p.1 ≠ Fd) ∧ R ≠ C4 ∧ R ≠ C3 ∧ C4 ≠ C3 := by
  have hlt := ktn_ltOf hl.2.2.2.2
  have hIF : I ≠ Fd := Ne.symm (hI (Fd, listOf (as.map Value.ref).toArray nf) List.mem_cons_self)
  have hI4 : I ≠ C4 := Ne.symm (hI (C4, o4) (List.mem_cons_of_mem _ List.mem_cons_self))
  have hI3 : I ≠ C3 := Ne.symm (hI (C3, o3) (List.mem_cons_of_mem _ (List.mem_cons_of_mem _ List.mem_cons_self)))
  refine ⟨fun p hp => ?_, fun p hp => ?_, Nat.ne_of_gt hl.2.2.1, Nat.ne_of_gt hl.2.2.2.1, h.c43⟩
  · rcases List.mem_cons.mp hp with rfl | hp
    · exact ⟨Nat.ne_of_lt hl.1, hI4, hI3⟩
    · rcases List.mem_cons.mp hp with rfl | hp
      · exact ⟨Nat.ne_of_lt hl.2.1, h.f4, h.f3⟩
      · refine ⟨Nat.ne_of_lt (hlt p hp), ?_⟩
        rcases List.mem_append.mp hp with hp | hp
        · exact ⟨fun e => h.c4 (e ▸ matL_in p hp), fun e => h.c3 (e ▸ matL_in p hp)⟩
        · exact (h.rest p hp).2.2
  · rcases List.mem_cons.mp hp with rfl | hp
    · exact Nat.ne_of_gt hl.2.1
    · rcases List.mem_cons.mp hp with rfl | hp
      · exact Ne.symm h.f4
      · rcases List.mem_cons.mp hp with rfl | hp
        · exact Ne.symm h.f3
        · rcases List.mem_cons.mp hp with rfl | hp
          · exact hIF
          · rcases List.mem_append.mp hp with hp | hp
            · exact fun e => h.fd (e ▸ matL_in p hp)
            · exact (h.rest p hp).2.1
theorem ledR_push {h₀ h : Heap} {L : Addr} {its : List Value} {nd : Nat} (xs : List Int) (hlen : cs.length = as.length)
    (N : News h₀ L h ((Fd, listOf ((as ++ [R]).map Value.ref).toArray (nf + 1)) :: (R, listOf its.toArray nd) :: (C4, o4) :: (C3, o3) :: (I, oI) :: (MatL as cs ++ rest))) :
    News h₀ L h ((I, oI) :: LedR Fd C4 C3 rest (as ++ [R], cs ++ [(its, xs, nd)], nf + 1, o4, o3)) := kst_newsOf N fun p hp => by
  dsimp only [LedR] at hp
  rw [matL_snoc hlen.symm] at hp
  simp only [List.mem_cons, List.mem_append, List.not_mem_nil, or_false] at hp ⊢
  rcases hp with hp | hp | hp | hp | (hp | hp) | hp
  · exact .inr (.inr (.inr (.inr (.inl hp))))
  · exact .inl hp
  · exact .inr (.inr (.inl hp))
  · exact .inr (.inr (.inr (.inl hp)))
  · exact .inr (.inr (.inr (.inr (.inr (.inl hp)))))
  · exact .inr (.inl hp)
  · exact .inr (.inr (.inr (.inr (.inr (.inr hp)))))
theorem ledR_off {c' : Cel} (hlen : cs.length = as.length) (hI : ∀ p ∈ LedR Fd C4 C3 rest (as, cs, nf, o4, o3), p.1 ≠ I) (hR : I < R) : ∀ p ∈ LedR Fd C4 C3 rest (as ++ [R], cs ++ [c'], nf + 1, o4', o3'), p.1 ≠ I := fun p hm => by
  dsimp only [LedR] at hm hI
  rcases List.mem_cons.mp hm with rfl | hm
  · exact hI (Fd, listOf (as.map Value.ref).toArray nf) List.mem_cons_self
  · rcases List.mem_cons.mp hm with rfl | hm
    · exact hI (C4, o4) (List.mem_cons_of_mem _ List.mem_cons_self)
    · rcases List.mem_cons.mp hm with rfl | hm
      · exact hI (C3, o3) (List.mem_cons_of_mem _ (List.mem_cons_of_mem _ List.mem_cons_self))
      · rw [matL_snoc hlen.symm] at hm
        rcases List.mem_append.mp hm with hm | hm
        · rcases List.mem_append.mp hm with hm | hm
          · exact hI p (List.mem_cons_of_mem _ (List.mem_cons_of_mem _ (List.mem_cons_of_mem _ (List.mem_append_left _ hm))))
          · rw [List.mem_singleton.mp hm]; exact Nat.ne_of_gt hR
        · exact hI p (List.mem_cons_of_mem _ (List.mem_cons_of_mem _ (List.mem_cons_of_mem _ (List.mem_append_right _ hm))))
end
/-- the inner loop's state: the row, the two cells -/
noncomputable abbrev ISt := List Value × List Int × Nat × Obj × Obj
noncomputable abbrev LedI (R C4 C3 : Addr) (rest : List (Addr × Obj)) (c : ISt) : List (Addr × Obj) := (R, listOf c.1.toArray c.2.2.1) :: (C4, c.2.2.2.1) :: (C3, c.2.2.2.2) :: rest
noncomputable abbrev PsI (_ : ISt) : List (Str × Value) := []
noncomputable abbrev FaI (c : ISt) : Prop := IntsAre c.1 c.2.1 ∧ (∃ v, c.2.2.2.1.data = .cell v) ∧ ∃ v, c.2.2.2.2.data = .cell v
theorem inner_offs {R C4 C3 : Addr} {rest own : List (Addr × Obj)} {c₀ : ISt} (hr : ∀ p ∈ rest, p.1 ≠ R ∧ p.1 ≠ C4 ∧ p.1 ≠ C3) (h1 : R ≠ C4) (h2 : R ≠ C3) (h3 : C4 ≠ C3) (ho : OwnOff own ((LedI R C4 C3 rest c₀).map (·.1))) :
    (∀ {oR o4 : Obj}, ∀ p ∈ (R, oR) :: (C4, o4) :: (rest ++ own), p.1 ≠ C3) ∧ (∀ {oR o3 : Obj}, ∀ p ∈ (R, oR) :: (C3, o3) :: (rest ++ own), p.1 ≠ C4) ∧ ∀ {o4 o3 : Obj}, ∀ p ∈ (C4, o4) :: (C3, o3) :: (rest ++ own), p.1 ≠ R := by
  have oR : ∀ p ∈ own, p.1 ≠ R := fun p hp => ho p hp R (by simp [LedI])
  have o4 : ∀ p ∈ own, p.1 ≠ C4 := fun p hp => ho p hp C4 (by simp [LedI])
  have o3 : ∀ p ∈ own, p.1 ≠ C3 := fun p hp => ho p hp C3 (by simp [LedI])
  have ap : ∀ p ∈ rest ++ own, p.1 ≠ R ∧ p.1 ≠ C4 ∧ p.1 ≠ C3 := fun p hp => by
    rcases List.mem_append.mp hp with hp | hp
    · exact hr p hp
    · exact ⟨oR p hp, o4 p hp, o3 p hp⟩
  refine ⟨fun p hp => ?_, fun p hp => ?_, fun p hp => ?_⟩
  · rcases List.mem_cons.mp hp with rfl | hp
    · exact h2
    · rcases List.mem_cons.mp hp with rfl | hp
      · exact h3
      · exact (ap p hp).2.2
  · rcases List.mem_cons.mp hp with rfl | hp
    · exact h1
    · rcases List.mem_cons.mp hp with rfl | hp
      · exact Ne.symm h3
      · exact (ap p hp).2.1
  · rcases List.mem_cons.mp hp with rfl | hp
    · exact Ne.symm h1
    · rcases List.mem_cons.mp hp with rfl | hp
      · exact Ne.symm h2
      · exact (ap p hp).1
end Mine
namespace Mine
theorem rows_start {h₀ h : Heap} {L L' Fd G T1 T2 l2 l : Addr} {oG oT1 oT2 o4 o3 o2 o1 p2 p1 : Obj} {v4 v3 : Option Value} {news : List (Addr × Obj)}
    (N : News h₀ L h ((Fd, listOf #[] 0) :: (G, oG) :: (T1, oT1) :: (T2, oT2) :: (L' + 1 + 1 + 1 + 1, o4) :: (L' + 1 + 1 + 1, o3) :: (L' + 1 + 1, o2) :: (L' + 1, o1) :: (l2, p2) :: (l, p1) :: news))
    (hF : G < Fd ∧ T1 < Fd ∧ T2 < Fd ∧ L' + 1 + 1 + 1 + 1 < Fd ∧ L' + 1 + 1 + 1 < Fd ∧ L' + 1 + 1 < Fd ∧ L' + 1 < Fd ∧ l2 < Fd ∧ l < Fd ∧ AllLt Fd news)
    (hG : T1 < G ∧ T2 < G ∧ L' + 1 + 1 + 1 + 1 < G ∧ L' + 1 + 1 + 1 < G ∧ L' + 1 + 1 < G ∧ L' + 1 < G ∧ l2 < G ∧ l < G ∧ AllLt G news)
    (hL : l2 < L' ∧ l < L' ∧ AllLt L' news) (d4 : o4.data = .cell v4) (d3 : o3.data = .cell v3) :
    News h₀ L h (LedR Fd (L' + 1 + 1 + 1 + 1) (L' + 1 + 1 + 1) ((G, oG) :: (L' + 1 + 1, o2) :: (L' + 1, o1) :: (l2, p2) :: (l, p1) :: news) ([], [], 0, o4, o3)) ∧
      RInv Fd (L' + 1 + 1 + 1 + 1) (L' + 1 + 1 + 1) ((G, oG) :: (L' + 1 + 1, o2) :: (L' + 1, o1) :: (l2, p2) :: (l, p1) :: news) [] ([], [], 0, o4, o3) := by
  have aF := ktn_ltOf hF.2.2.2.2.2.2.2.2.2
  have aL := ktn_ltOf hL.2.2
  refine ⟨kst_newsOf N fun p hp => ?_, RInv.start ?_ ?_ ?_ d4 d3⟩
  · simp only [LedR, MatL, List.nil_append, List.map_nil, List.mem_cons] at hp ⊢
    rcases hp with hp | hp | hp | hp | hp | hp | hp | hp | hp
    · exact .inl hp
    · exact .inr (.inr (.inr (.inr (.inl hp))))
    · exact .inr (.inr (.inr (.inr (.inr (.inl hp)))))
    · exact .inr (.inl hp)
    · exact .inr (.inr (.inr (.inr (.inr (.inr (.inl hp))))))
    · exact .inr (.inr (.inr (.inr (.inr (.inr (.inr (.inl hp)))))))
    · exact .inr (.inr (.inr (.inr (.inr (.inr (.inr (.inr (.inl hp))))))))
    · exact .inr (.inr (.inr (.inr (.inr (.inr (.inr (.inr (.inr (.inl hp)))))))))
    · exact .inr (.inr (.inr (.inr (.inr (.inr (.inr (.inr (.inr (.inr hp)))))))))
  · intro p hp
    simp only [List.mem_cons] at hp
    rcases hp with rfl | rfl | rfl | rfl | rfl | rfl | rfl | hp
    · exact Nat.ne_of_lt hF.2.2.2.1
    · exact Nat.ne_of_lt hF.2.2.2.2.1
    · exact Nat.ne_of_lt hF.1
    · exact Nat.ne_of_lt hF.2.2.2.2.2.1
    · exact Nat.ne_of_lt hF.2.2.2.2.2.2.1
    · exact Nat.ne_of_lt hF.2.2.2.2.2.2.2.1
    · exact Nat.ne_of_lt hF.2.2.2.2.2.2.2.2.1
    · exact Nat.ne_of_lt (aF p hp)
  · intro p hp
    simp only [List.mem_cons] at hp
    rcases hp with rfl | rfl | rfl | rfl | rfl | rfl | hp
    · exact Nat.ne_of_lt (Nat.lt_succ_self _)
    · exact Nat.ne_of_gt hG.2.2.1
    · exact Nat.ne_of_lt (Nat.lt_succ_of_lt (Nat.lt_succ_self _))
    · exact Nat.ne_of_lt (Nat.lt_succ_of_lt (Nat.lt_succ_of_lt (Nat.lt_succ_self _)))
    · exact Nat.ne_of_lt (Nat.lt_of_lt_of_le hL.1 (Nat.le_add_right _ 4))
    · exact Nat.ne_of_lt (Nat.lt_of_lt_of_le hL.2.1 (Nat.le_add_right _ 4))
    · exact Nat.ne_of_lt (Nat.lt_of_lt_of_le (aL p hp) (Nat.le_add_right _ 4))
  · intro p hp
    simp only [List.mem_cons] at hp
    rcases hp with rfl | rfl | rfl | rfl | rfl | hp
    · exact Nat.ne_of_gt hG.2.2.2.1
    · exact Nat.ne_of_lt (Nat.lt_succ_self _)
    · exact Nat.ne_of_lt (Nat.lt_succ_of_lt (Nat.lt_succ_self _))
    · exact Nat.ne_of_lt (Nat.lt_of_lt_of_le hL.1 (Nat.le_add_right _ 3))
    · exact Nat.ne_of_lt (Nat.lt_of_lt_of_le hL.2.1 (Nat.le_add_right _ 3))
    · exact Nat.ne_of_lt (Nat.lt_of_lt_of_le (aL p hp) (Nat.le_add_right _ 3))
theorem ledI_start {h₀ h : Heap} {L R I Fd C4 C3 : Addr} {oI oF o4 o3 : Obj} {M : List (Addr × Obj)} (N : News h₀ L h ((R, listOf #[] 0) :: (I, oI) :: (Fd, oF) :: (C4, o4) :: (C3, o3) :: M)) : News h₀ L h (LedI R C4 C3 ((I, oI) :: (Fd, oF) :: M) ([], [], 0, o4, o3)) := kst_newsOf N fun p hp => by
  simp only [LedI, List.mem_cons] at hp ⊢
  rcases hp with hp | hp | hp | hp | hp | hp
  · exact .inl hp
  · exact .inr (.inr (.inr (.inl hp)))
  · exact .inr (.inr (.inr (.inr (.inl hp))))
  · exact .inr (.inl hp)
  · exact .inr (.inr (.inl hp))
  · exact .inr (.inr (.inr (.inr (.inr hp))))
theorem isRange_cast {H : Heap} {r : Addr} {a b b' : Int} {t u v : Tok} (e : b = b') (h : IsRange H r a b 1 t u v) : IsRange H r a b' 1 t u v := e ▸ h
theorem sm_getD {xs : List Int} (h : ∀ x ∈ xs, Sm x) (k : Nat) : Sm (xs.getD k 0) := by
  rw [List.getD_eq_getElem?_getD]
  by_cases hk : k < xs.length
  · rw [List.getElem?_eq_getElem hk]; exact h _ (List.getElem_mem _)
  · rw [List.getElem?_eq_none (by omega)]; exact sm_zero
end Mine
namespace Mine
theorem vint {a b : Int} {t : Tok} (h : a = b) : Value.int a t = Value.int b t := by rw [h]
end Mine
namespace Mine
section
variable {M : Model} {A : Around} {E : Value → Shared → Prop} {s : Shared} {h₀ : Heap} {env : Env} {m : Str → Option Value}
/-- a local name is bound -/
theorem local_set {n : Str} {v : Value} {news : List (Addr × Obj)} {Q : Unit → Shared → Prop} (F : Fr h₀ env.locals s.heap m) (N : News h₀ env.locals s.heap news) (hl : env.kindOf n = some .local) (hp : (env.scope.kind == .class || (env.scope.kind == .module && env.locals != env.globals)) = false)
    (h : ∀ h', Fr h₀ env.locals h' (fun y => if y = n then some v else m y) → News h₀ env.locals h' news → Q () { s with heap := h', toks := s.toks + 1 }) : wpAny M A (storeName env n v) Q E s := by
  refine wpAny_storeName_local hl F.ns (fun h₂ hn₂ hs₂ => h h₂ ?_ fun p hp => ⟨hs₂.extBut _ _ (N p hp).2.1 (N p hp).1, (N p hp).2⟩) hp
  have hL₀ : h₀.get? env.locals = none := Heap.get?_none_of_le F.above
  exact ⟨hn₂, fun b o e => hs₂.extBut b o (fun q => by rw [q, hL₀] at e; cases e) (F.keep b o e), F.above⟩
theorem range_news {h₁ h₂ : Heap} {L : Addr} {m : Str → Option Value} {a b c : Int} {t u v : Tok} {news : List (Addr × Obj)} (F : Fr h₀ L h₂ m) (hR : IsRange h₁ h₂.objs.size a b c t u v) (N : News h₀ L h₁ news) :
    News h₀ L h₁ ((h₂.objs.size, { cls := .type "range", data := .fields #[.int a t, .int b u, .int c v] }) :: news) := fun p hp => by
  rcases List.mem_cons.mp hp with rfl | hp
  · exact ⟨hR, Nat.ne_of_gt F.ns.lt, next_is_new F⟩
  · exact N p hp
end
end Mine
namespace Mine
section
variable {h₀ h : Heap} {L : Addr} {a b c d e f : Addr × Obj} {r : List (Addr × Obj)}
theorem np_low (N : News h₀ L h (a :: b :: c :: d :: r)) : News h₀ L h (d :: b :: c :: r) := kst_newsOf N fun p hp => by
  simp only [List.mem_cons] at hp ⊢
  rcases hp with hp | hp | hp | hp
  · exact .inr (.inr (.inr (.inl hp)))
  · exact .inr (.inl hp)
  · exact .inr (.inr (.inl hp))
  · exact .inr (.inr (.inr (.inr hp)))
theorem np_high (N : News h₀ L h (d :: b :: c :: r)) : News h₀ L h (c :: b :: d :: r) := kst_newsOf N fun p hp => by
  simp only [List.mem_cons] at hp ⊢
  rcases hp with hp | hp | hp | hp
  · exact .inr (.inr (.inl hp))
  · exact .inr (.inl hp)
  · exact .inl hp
  · exact .inr (.inr (.inr hp))
theorem np_int (N : News h₀ L h (a :: b :: c :: d :: e :: r)) : News h₀ L h (d :: c :: e :: r) := kst_newsOf N fun p hp => by
  simp only [List.mem_cons] at hp ⊢
  rcases hp with hp | hp | hp | hp
  · exact .inr (.inr (.inr (.inl hp)))
  · exact .inr (.inr (.inl hp))
  · exact .inr (.inr (.inr (.inr (.inl hp))))
  · exact .inr (.inr (.inr (.inr (.inr hp))))
theorem np_ref (N : News h₀ L h (a :: b :: c :: d :: e :: r)) : News h₀ L h (e :: a :: b :: c :: d :: r) := kst_newsOf N fun p hp => by
  simp only [List.mem_cons] at hp ⊢
  rcases hp with hp | hp | hp | hp | hp | hp
  · exact .inr (.inr (.inr (.inr (.inl hp))))
  · exact .inl hp
  · exact .inr (.inl hp)
  · exact .inr (.inr (.inl hp))
  · exact .inr (.inr (.inr (.inl hp)))
  · exact .inr (.inr (.inr (.inr (.inr hp))))
theorem np_led {own M : List (Addr × Obj)} : (∀ p ∈ a :: b :: c :: d :: e :: M, p ∈ a :: b :: c :: d :: e :: (M ++ own)) ∧ ∀ p ∈ own, p ∈ a :: b :: c :: d :: e :: (M ++ own) := by
  refine ⟨fun p hp => ?_, fun p hp => ?_⟩
  · simp only [List.mem_cons, List.mem_append] at hp ⊢
    rcases hp with hp | hp | hp | hp | hp | hp
    · exact .inl hp
    · exact .inr (.inl hp)
    · exact .inr (.inr (.inl hp))
    · exact .inr (.inr (.inr (.inl hp)))
    · exact .inr (.inr (.inr (.inr (.inl hp))))
    · exact .inr (.inr (.inr (.inr (.inr (.inl hp)))))
  · simp only [List.mem_cons, List.mem_append]
    exact .inr (.inr (.inr (.inr (.inr (.inr hp)))))
end
theorem rangeKs_map {β : Type} (n : Nat) (g : Int → β) : (rangeKs 0 n).map g = (List.range n).map fun k : Nat => g (k : Int) := by
  unfold rangeKs
  rw [List.map_map]
  refine List.map_congr_left fun k _ => ?_
  simp
end Mine
end
section
open PySem PySem.W PyProof.Rows
namespace Mine
/-- the table behind one more hash -/
noncomputable def tabStep (t : SetTable) (h : Int) : SetTable :=
  match t.freeSlot h with
  | some (slot, _) => ((t.put slot).1).orStandIn (t.place.size + 1)
  | none => t.standIn (t.place.size + 1)
noncomputable def tabOf (led : Bool) (l : List Int) : SetTable := l.foldl (fun t k => tabStep t (hashInt k)) (.fresh 0 0 led)
noncomputable def slotAt (place : Array Nat) (i : Nat) : Nat := if i = 0 then 0 else place.getD (i - 1) 0 + 1
noncomputable def slotOk (place : Array Nat) : Bool := (List.range (place.size + 1)).all fun i => SetTable.below place (slotAt place i) == i
noncomputable def tabOk (led : Bool) (t : SetTable) : Bool := t.plain && slotOk t.place && !t.tooFull && t.led == led
noncomputable def dom7 : List Int := [-3, -2, -1, 0, 1, 2, 3]
noncomputable def seqs : List (List Int) := [] :: (dom7.map fun a => [a]) ++ (dom7.flatMap fun a => (dom7.filter (· != a)).map fun b => [a, b]) ++ (dom7.flatMap fun a => (dom7.filter (· != a)).flatMap fun b => (dom7.filter fun c => c != a && c != b).map fun c => [a, b, c])
theorem seqs_ok : (seqs.all fun l => tabOk true (tabOf true l) && tabOk false (tabOf false l)) = true := by decide +kernel
theorem dom7_mem {x : Int} (h1 : -3 ≤ x) (h2 : x ≤ 3) : x ∈ dom7 := by
  unfold dom7
  simp only [List.mem_cons, List.not_mem_nil, or_false]
  omega
theorem seqs_mem {l : List Int} (hn : l.Nodup) (hl : l.length ≤ 3) (hd : ∀ x ∈ l, -3 ≤ x ∧ x ≤ 3) : l ∈ seqs := by
  have m : ∀ x ∈ l, x ∈ dom7 := fun x hx => dom7_mem (hd x hx).1 (hd x hx).2
  match l, hn, hl, m with
  | [], _, _, _ => exact List.mem_cons_self
  | [a], _, _, m =>
    unfold seqs
    simp only [List.cons_append, List.mem_cons, List.mem_append, List.mem_map]
    exact .inr (.inl (.inl ⟨a, m a (by simp), rfl⟩))
  | [a, b], hn, _, m =>
    simp only [List.nodup_cons, List.mem_cons, List.not_mem_nil, or_false] at hn
    unfold seqs
    simp only [List.cons_append, List.mem_cons, List.mem_append, List.mem_map, List.mem_flatMap, List.mem_filter]
    exact .inr (.inl (.inr ⟨a, m a (by simp), b, ⟨m b (by simp), by simpa using fun e => hn.1 e.symm⟩, rfl⟩))
  | [a, b, c], hn, _, m =>
    simp only [List.nodup_cons, List.mem_cons, List.not_mem_nil, or_false, not_or] at hn
    unfold seqs
    simp only [List.cons_append, List.mem_cons, List.mem_append, List.mem_map, List.mem_flatMap, List.mem_filter]
    refine .inr (.inr ⟨a, m a (by simp), b, ⟨m b (by simp), by simpa using fun e => hn.1.1 e.symm⟩, c, ⟨m c (by simp), ?_⟩, rfl⟩)
    simp only [bne_iff_ne, ne_eq, Bool.and_eq_true]
    exact ⟨fun e => hn.1.2 e.symm, fun e => hn.2.1 e.symm⟩
theorem tabOf_ok (led : Bool) {l : List Int} (hn : l.Nodup) (hl : l.length ≤ 3) (hd : ∀ x ∈ l, -3 ≤ x ∧ x ≤ 3) : tabOk led (tabOf led l) = true := by
  have h := List.all_eq_true.mp seqs_ok l (seqs_mem hn hl hd)
  rw [Bool.and_eq_true] at h
  cases led
  · exact h.2
  · exact h.1
theorem tabOf_snoc (led : Bool) (l : List Int) (k : Int) : tabOf led (l ++ [k]) = tabStep (tabOf led l) (hashInt k) := by
  unfold tabOf
  rw [List.foldl_append]; rfl
theorem layNew_tab {t : SetTable} {es : Array (Int × Value)} {h : Int} {x : Value} (hs : t.place.size = es.size) : (layNew t es h x).2.1 = tabStep t h := by
  unfold layNew tabStep
  cases t.freeSlot h with
  | none => rw [hs]
  | some p =>
    obtain ⟨slot, d⟩ := p
    dsimp only
    have e : (SetTable.insertAt es (t.put slot).2 (h, x)).size = t.place.size + 1 := by
      have := (SetTable.insertAt_perm es (t.put slot).2 (h, x)).length_eq
      rw [Array.length_toList, Array.length_toList, Array.size_push] at this
      rw [this, hs]
    rw [e]
section
variable {prog : Program} {w : World} {A : Around} {E : Value → Shared → Prop} {s : Shared}
/-- the very set at a -/
noncomputable def SetX (prog : Program) (w : World) (h : Heap) (a : Addr) (es : Array (Int × Value)) (ep : Nat) (t : SetTable) : Prop :=
  ∃ o, h.get? a = some o ∧ o.ExactSet ∧ o.data = .set es ep t ∧ ElemsOf (intKind prog w) es.toList ∧ es.size < scanBound ∧ t.fits es.size = true
theorem setAdd_exact {a : Addr} {es : Array (Int × Value)} {ep : Nat} {t : SetTable} {k : Int} {tok : Tok} {Q : Bool → Shared → Prop} (hS : SetX prog w s.heap a es ep t) (hroom : es.size + 1 < scanBound)
    (hpl : (tabStep t (hashInt k)).plain = true) (hfull : (tabStep t (hashInt k)).tooFull = false)
    (found : (∃ e ∈ es.toList, Value.isInt k e.2 = true) → Q false s)
    (new : (∀ e ∈ es.toList, Value.isInt k e.2 = false) → ∀ h' es', Heap.SameBut a s.heap h' → es'.toList.Perm (es.toList ++ [(hashInt k, .int k tok)]) → SetX prog w h' a es' (ep + 1) (tabStep t (hashInt k)) → Q true { s with heap := h' }) :
    wpAny (model prog w) A (setAddHashed a (.int k tok) (hashInt k)) Q E s := by
  obtain ⟨o, ho, hex, hd, hel, hb, hf⟩ := hS
  have hkey : (intKind prog w).is k (.int k tok) = true := intKind_is _ _ _ _
  unfold setAddHashed setAddHashedIn
  refine wpAny_holding (wpAny_bind (wpAny_setState_of ho hd hf ?_))
  dsimp only
  rw [byScan_of (knd := intKind prog w) (x := .int k tok) rfl hb hel]
  simp only [↓reduceIte]
  unfold setAddByScan
  refine wpAny_bind ?_
  refine wpAny_bind (wpAny_rule ?_)
  refine wpAny_bind (wpAny_setScan_of (knd := intKind prog w) hkey ho hd hf hel ?_)
  have hps : t.place.size = es.size := by
    simp only [SetTable.fits, Bool.and_eq_true, beq_iff_eq] at hf
    exact hf.1
  cases hr : List.findIdx? (fun e => (intKind prog w).is k e.2) es.toList with
  | some j =>
    dsimp only
    obtain ⟨hj, hpj, _⟩ := List.findIdx?_eq_some_iff_getElem.mp hr
    exact wpAny_pure (wpAny_pure (found ⟨es.toList[j], List.getElem_mem hj, hpj⟩))
  | none =>
    dsimp only
    have hnone := List.findIdx?_eq_none_iff.mp hr
    have hgw : ∀ (b : Bool) {s₁ : Shared} {Q' : Unit → Shared → Prop}, Q' () s₁ → wpAny (model prog w) A (match b with | true => rule "set.scan.the-table-gave-way" | false => pure ()) Q' E s₁ :=
      fun b s₁ Q' hq => by cases b <;> first | exact wpAny_pure hq | exact wpAny_rule hq
    have hperm := layNew_perm t es (hashInt k) (.int k tok)
    have hfits := layNew_fits t es (hashInt k) (.int k tok)
    have htab : (layNew t es (hashInt k) (.int k tok)).2.1 = tabStep t (hashInt k) := layNew_tab hps
    generalize hL : layNew t es (hashInt k) (.int k tok) = L at hperm hfits htab ⊢
    obtain ⟨es1, t1, wasDummy, gave⟩ := L
    dsimp only at hperm hfits htab ⊢
    subst htab
    rw [Array.toList_push] at hperm
    have hel1 : ElemsOf (intKind prog w) es1.toList := (hel.push hkey rfl).perm hperm
    have hsz : es1.size = es.size + 1 := by rw [← Array.length_toList, hperm.length_eq, List.length_append, Array.length_toList]; rfl
    have hb1' : es1.size < scanBound := by rw [hsz]; exact hroom
    refine wpAny_bind (hgw _ ?_)
    rw [hpl]
    refine wpAny_ite_true (by decide) ?_
    refine wpAny_bind ?_
    rw [hashByValue_scannable 8 (x := .int k tok) rfl]
    refine wpAny_pure ?_
    have hpk : plainKind (.int k tok) = true := rfl
    rw [hpk]
    simp only [↓reduceIte]
    refine wpAny_bind (wpAny_storeSet_of ho hd ?_ (fits_of_scanBound hb1'))
    have hg : (s.heap.update a (Obj.putSet es1 (tabStep t (hashInt k)))).get? a = some { o with data := .set es1 (ep + 1) (tabStep t (hashInt k)) } := by
      have := Heap.get?_update_self (Obj.putSet es1 (tabStep t (hashInt k))) ho (by rw [putSet_of es1 _ hd]; rfl)
      rw [putSet_of es1 _ hd] at this; exact this
    rw [hfull]
    simp only [Bool.and_false, Bool.false_eq_true, ↓reduceIte]
    exact wpAny_pure (wpAny_pure (new hnone _ es1 (Heap.SameBut.update s.heap a _) hperm ⟨_, hg, hex, rfl, hel1, hb1', hfits⟩))
theorem setAdd_exact_found {a : Addr} {es : Array (Int × Value)} {ep : Nat} {t : SetTable} {k : Int} {tok : Tok} {Q : Bool → Shared → Prop} (hS : SetX prog w s.heap a es ep t)
    (hm : ∃ e ∈ es.toList, Value.isInt k e.2 = true) (found : Q false s) : wpAny (model prog w) A (setAddHashed a (.int k tok) (hashInt k)) Q E s := by
  obtain ⟨o, ho, hex, hd, hel, hb, hf⟩ := hS
  have hkey : (intKind prog w).is k (.int k tok) = true := intKind_is _ _ _ _
  unfold setAddHashed setAddHashedIn
  refine wpAny_holding (wpAny_bind (wpAny_setState_of ho hd hf ?_))
  dsimp only
  rw [byScan_of (knd := intKind prog w) (x := .int k tok) rfl hb hel]
  refine wpAny_ite_true (by decide) ?_
  unfold setAddByScan
  refine wpAny_bind ?_
  refine wpAny_bind (wpAny_rule ?_)
  refine wpAny_bind (wpAny_setScan_of (knd := intKind prog w) hkey ho hd hf hel ?_)
  cases hr : List.findIdx? (fun e => (intKind prog w).is k e.2) es.toList with
  | some j =>
    dsimp only
    exact wpAny_pure (wpAny_pure found)
  | none =>
    have hnone := List.findIdx?_eq_none_iff.mp hr
    obtain ⟨e, he, hk⟩ := hm
    have := hnone e he
    rw [show (intKind prog w).is k e.2 = Value.isInt k e.2 from rfl, hk] at this
    exact absurd this (by decide)
end
end Mine
namespace Mine
theorem ints_map_mem {vs : List Value} {ks : List Int} (h : IntsAre vs ks) {k : Int} : (∃ v ∈ vs, Value.isInt k v = true) ↔ k ∈ ks := by
  induction h with
  | nil => simp
  | cons n t _ ih =>
    constructor
    · rintro ⟨v, hv, hk⟩
      rcases List.mem_cons.mp hv with rfl | hv
      · have := Value.isInt_inj _ k n hk (by simp [Value.isInt])
        rw [this]; exact List.mem_cons_self
      · exact List.mem_cons_of_mem _ (ih.mp ⟨v, hv, hk⟩)
    · intro hk
      rcases List.mem_cons.mp hk with rfl | hk
      · exact ⟨.int k t, List.mem_cons_self, by simp [Value.isInt]⟩
      · obtain ⟨v, hv, h⟩ := ih.mpr hk
        exact ⟨v, List.mem_cons_of_mem _ hv, h⟩
theorem ints_perm {vs vs' : List Value} (p : vs'.Perm vs) : ∀ {ks : List Int}, IntsAre vs ks → ∃ ks', IntsAre vs' ks' ∧ ks'.Perm ks := by
  induction p with
  | nil => intro ks h; exact ⟨ks, h, .refl _⟩
  | cons x _ ih =>
    intro ks h
    cases h with
    | cons n t h =>
      obtain ⟨ks', h1, h2⟩ := ih h
      exact ⟨n :: ks', .cons n t h1, h2.cons n⟩
  | swap x y l =>
    intro ks h
    cases h with
    | cons n t h =>
      cases h with
      | cons n' t' h => exact ⟨_, .cons _ _ (.cons _ _ h), .swap _ _ _⟩
  | trans _ _ ih1 ih2 =>
    intro ks h
    obtain ⟨k1, a1, b1⟩ := ih2 h
    obtain ⟨k2, a2, b2⟩ := ih1 a1
    exact ⟨k2, a2, b2.trans b1⟩
theorem firstMet_mem (val : Nat → Int) (i : Nat) (k : Int) : k ∈ firstMet val i ↔ ∃ j, j < i ∧ val j = k := by
  have h := firstMet_any val i k
  have e : ∀ l : List Int, l.any (· == k) = true ↔ k ∈ l := fun l => by simp [List.any_eq_true]
  rw [← e, h, e]
  simp [List.mem_map, List.mem_range]
theorem firstMet_nodup (val : Nat → Int) : ∀ i, (firstMet val i).Nodup
  | 0 => List.nodup_nil
  | i + 1 => by
    rw [firstMet_succ]
    unfold step_dedup
    split
    · exact firstMet_nodup val i
    · rename_i hn
      refine List.nodup_append.mpr ⟨firstMet_nodup val i, List.nodup_cons.mpr ⟨List.not_mem_nil, List.nodup_nil⟩, fun a ha b hb => ?_⟩
      rw [List.mem_singleton.mp hb]
      intro e
      subst e
      exact hn (List.any_eq_true.mpr ⟨_, ha, by simp⟩)
section
variable {prog : Program} {w : World} {A : Around} {E : Value → Shared → Prop} {s : Shared}
noncomputable def SJ (prog : Program) (w : World) (led : Bool) (l : List Int) (h : Heap) (a : Addr) : Prop :=
  ∃ es ep ks, SetX prog w h a es ep (tabOf led l) ∧ IntsAre (es.toList.map (·.2)) ks ∧ ks.Perm l
theorem SJ.at {led : Bool} {l : List Int} {h h' : Heap} {a : Addr} (x : SJ prog w led l h a) (k : ∀ o, h.get? a = some o → h'.get? a = some o) : SJ prog w led l h' a := by
  obtain ⟨es, ep, ks, ⟨o, ho, r⟩, hi, hp⟩ := x
  exact ⟨es, ep, ks, ⟨o, k o ho, r⟩, hi, hp⟩
theorem SJ.fresh {led : Bool} {h : Heap} {a : Addr} (ho : h.get? a = some { cls := .type "set", dict := none, data := .set #[] 0 (.fresh 0 0 led) }) : SJ prog w led [] h a :=
  ⟨#[], 0, [], ⟨_, ho, ⟨rfl, rfl, rfl⟩, rfl, (fun e he => by simp at he), by decide, by rfl⟩, .nil, .refl _⟩
theorem setAdd_SJ {led : Bool} {l : List Int} {a : Addr} {k : Int} {tok : Tok} {Q : Bool → Shared → Prop} (hS : SJ prog w led l s.heap a) (hn : (step_dedup l k).Nodup) (hl : (step_dedup l k).length ≤ 3) (hd : ∀ x ∈ step_dedup l k, -3 ≤ x ∧ x ≤ 3)
    (h : ∀ b h', Heap.SameBut a s.heap h' → SJ prog w led (step_dedup l k) h' a → Q b { s with heap := h' }) :
    wpAny (model prog w) A (setAddHashed a (.int k tok) (hashInt k)) Q E s := by
  obtain ⟨es, ep, ks, hX, hi, hp⟩ := hS
  have hmem : (∃ e ∈ es.toList, Value.isInt k e.2 = true) ↔ k ∈ l := by
    rw [← hp.mem_iff, ← ints_map_mem hi]
    constructor
    · rintro ⟨e, he, h⟩; exact ⟨e.2, List.mem_map_of_mem he, h⟩
    · rintro ⟨v, hv, h⟩
      obtain ⟨e, he, rfl⟩ := List.mem_map.mp hv
      exact ⟨e, he, h⟩
  have hstep : step_dedup l k = if k ∈ l then l else l ++ [k] := by
    unfold step_dedup
    by_cases hk : k ∈ l
    · rw [if_pos hk, if_pos (List.any_eq_true.mpr ⟨k, hk, by simp⟩)]
    · rw [if_neg hk, if_neg]
      intro e
      obtain ⟨x, hx, e⟩ := List.any_eq_true.mp e
      rw [beq_iff_eq.mp e] at hx; exact hk hx
  by_cases hk : k ∈ l
  · rw [if_pos hk] at hstep
    have e0 : s = { s with heap := s.heap } := by cases s; rfl
    -- the table of one more is asked for: l is not changed, so any table will do
    refine setAdd_exact_found hX (hmem.mpr hk) ?_
    rw [e0]
    exact h false s.heap (Heap.SameBut.refl a s.heap) (by rw [hstep]; exact ⟨es, ep, ks, hX, hi, hp⟩)
  · rw [if_neg hk] at hstep
    rw [hstep] at hn hl hd h
    have hok := tabOf_ok led hn hl hd
    rw [tabOf_snoc] at hok
    simp only [tabOk, Bool.and_eq_true, Bool.not_eq_true'] at hok
    have hsz : es.size ≤ 3 := by
      have h1 := hi.length
      rw [List.length_map, Array.length_toList] at h1
      have h2 := hp.length_eq
      rw [List.length_append] at hl
      omega
    refine setAdd_exact hX (by unfold scanBound; omega) hok.1.1.1 hok.1.2 (fun hf => absurd (hmem.mp hf) hk) fun _ h' es' hsb hpe hX' => ?_
    refine h true h' hsb ?_
    have hi2 : IntsAre ((es.toList ++ [(hashInt k, Value.int k tok)]).map (·.2)) (ks ++ [k]) := by
      rw [List.map_append]
      exact IntsAre.append hi (.cons _ _ .nil)
    obtain ⟨ks', h1, h2⟩ := ints_perm (hpe.map (·.2)) hi2
    exact ⟨es', ep + 1, ks', by rw [tabOf_snoc]; exact hX', h1, h2.trans (hp.append_right _)⟩
end
end Mine
end
section
open PySem PySem.W PyProof.Rows
set_option maxRecDepth 100000
namespace Mine
section
variable {prog : Program} {w : World} {A : Around} {R : Result → Shared → Prop} {I : Addr} {fp wr : List Addr} {G : Array GenState → Array GenState → Prop} {n : Nat} {P : Nat → Value → Prop} {St : Nat → Shared → Prop}
theorem set_loop_exact (W : WalksS prog w A.in1 I fp wr G n P St) (S : Addr) (hSf : S ∉ fp) (val : Nat → Int) (hval : ∀ i v, P i v → ∃ t, v = .int (val i) t) (led : Bool) (hb : n ≤ 3) (hdom : ∀ i, i < n → -3 ≤ val i ∧ val i ≤ 3) :
    ∀ (k i : Nat) (s : Shared), n - i = k → i ≤ n → St i s → SJ prog w led (firstMet val i) s.heap S →
      (∀ s', Moved (S :: wr) G s s' → SJ prog w led (firstMet val n) s'.heap S → R (.ok (.ret .none)) s') →
      codeAny (model prog w) A (.builtin "set.update.loop" ⟨[.ref S, .ref I], []⟩) R s := by
  have hSw : S ∉ wr := fun h => hSf (W.sub _ h)
  have hsub : ∀ b ∈ wr, b ∈ S :: wr := fun b hb => List.mem_cons_of_mem _ hb
  intro k
  induction k with
  | zero =>
    intro i s hk hi hst hS hR
    have hin : i = n := by omega
    subst hin
    refine codeAny_builtin F.entry_set_update_loop ?_
    rw [Around.under_plainId F.plain_set_update_loop _]
    show wpAny _ A.in1 (pyNext (.ref I) >>= _) _ _ s
    refine wpAny_bind (W.done s _ _ hst fun s' hm => ?_)
    show wpAny _ A.in1 (ret Value.none) _ _ s'
    exact wpAny_pure (hR s' (hm.mono hsub) (hS.at fun o q => hm.heap S _ hSw q))
  | succ k ih =>
    intro i s hk hi hst hS hR
    have hlt : i < n := by omega
    refine codeAny_builtin F.entry_set_update_loop ?_
    rw [Around.under_plainId F.plain_set_update_loop _]
    show wpAny _ A.in1 (pyNext (.ref I) >>= _) _ _ s
    refine wpAny_bind (W.item i s _ _ hlt hst fun v s' hP hst' hm => ?_)
    obtain ⟨t, rfl⟩ := hval i v hP
    have hS' : SJ prog w led (firstMet val i) s'.heap S := hS.at fun o q => hm.heap S _ hSw q
    show wpAny _ A.in1 (holding [Value.int (val i) t] (setAdd S (.int (val i) t)) >>= _) _ _ s'
    refine wpAny_bind (wpAny_holding ?_)
    unfold setAdd
    refine wpAny_holding ?_
    refine wpAny_bind ((intKind prog w).pyHash (k := val i) (intKind_is _ _ _ _) ?_)
    have e1 : step_dedup (firstMet val i) (val i) = firstMet val (i + 1) := (firstMet_succ val i).symm
    refine setAdd_SJ (s := { s' with toks := s'.toks + 1 }) hS' (by rw [e1]; exact firstMet_nodup _ _) (by rw [e1]; have := firstMet_length_le val (i + 1); omega) (by
      rw [e1]
      intro x hx
      obtain ⟨j, hj, rfl⟩ := (firstMet_mem val (i + 1) x).mp hx
      exact hdom j (by omega)) fun b h' hsb hS2 => ?_
    rw [e1] at hS2
    refine wpAny_pure ⟨plainId_quiet F.plain_set_update_loop _, ih (i + 1) _ (by omega) hlt (W.frame _ s' _ _ hst' (Nat.le_succ _) fun b hb o e => ?_) hS2 fun s'' hm'' hS'' => ?_⟩
    · rw [hsb.2 b (fun h : b = S => hSf (by rw [← h]; exact hb))]; exact e
    · refine hR s'' (Moved.trans W.gtrans ((hm.mono hsub).then_heap (Nat.le_succ _) fun b o hb e => ?_) hm'') hS''
      rw [hsb.2 b (fun h : b = S => hb (by rw [h]; exact List.mem_cons_self))]; exact e
end
section
variable {prog : Program} {w : World} {A : Around} {E : Value → Shared → Prop} {s : Shared}
noncomputable abbrev byText (w : World) : Bool := w.params.followText "set-order"
theorem set_new_exact (a : Value) {Q₁ : Value → Shared → Prop}
    (h : Q₁ (.ref s.heap.objs.size) { s with heap := s.heap.push { cls := .type "set", dict := none, data := .set #[] 0 (.fresh 0 0 (!byText w)) } }) :
    codeAny (model prog w) A (.call (.builtin "set.__new__") ⟨[.type "set", a], []⟩) (wants Q₁ E) s := by
  refine codeAny_of_tree ?_
  show wpAny _ A.in1 (do checkBuiltinCall "set.__new__" ⟨[.type "set", a], []⟩; again (.builtin "set.__new__" ⟨[.type "set", a], []⟩)) _ _ s
  refine wpAny_bind (wpAny_of_eq (F.newCall_set_1 a) (wpAny_pure ⟨plainId_quiet F.plain_set_new _, codeAny_builtin F.entry_set_new ?_⟩))
  rw [Around.under_plainId F.plain_set_new _]
  unfold Builtin.«set.__new__» Builtin.Frozenset.newClass
  have hsub := sub_set_self
  obtain ⟨hp, g, d, tk, os⟩ := s
  dsimp only
  wp_walk
  refine wpAny_askSetting (wpAny_pure ?_)
  dsimp only
  simp only [newObj]
  refine wpAny_bind (wpAny_alloc (wpAny_pure ?_))
  exact wpAny_pure h
set_option maxHeartbeats 3200000 in
theorem call_set_exact {l : Addr} {items : Array Value} {ns : List Int} {Q : Value → Shared → Prop}
    (hh : A.handled = none) (hl : s.heap.IsList l items) (hi : IntsAre items.toList ns) (hb : items.size ≤ 3) (hdom : ∀ i, i < items.size → -3 ≤ ns.getD i 0 ∧ ns.getD i 0 ≤ 3)
    (h : ∀ (h' : Heap) (tk : Nat), SJ prog w (!byText w) (firstMet (fun i => ns.getD i 0) items.size) h' s.heap.objs.size →
      (∀ b o, b < s.heap.objs.size → s.heap.get? b = some o → h'.get? b = some o) → Q (.ref s.heap.objs.size) { s with heap := h', toks := tk }) :
    wpAny (model prog w) A (call (.type "set") [.ref l]) Q E s := by
  obtain ⟨c, tl, hmro⟩ := F.called_set.mro
  have hmade := F.called_set.made
  have hsub := F.called_set.sub
  refine wpAny_call (codeAny_of_tree ?_)
  show wpAny _ _ (callAny (.type "set") _) _ _ _
  refine wpAny_pure ⟨Code.quiet_builtin _ (by decide +kernel), codeAny_builtin F.entry_type_call ?_⟩
  rw [Around.under_plain (weight_type_call_type "set" [.ref l] []) rfl]
  have h1 := F.called_set.notType
  have h2 := F.called_set.canCreate
  have hct := F.typeCall_set_1 (.ref l)
  repeat (any_goals (first | assumption | wp_step))
  refine codeAny_mono (set_new_exact (.ref l) (E := E) (Q₁ := fun obj s₁ => obj = .ref s.heap.objs.size ∧ s₁ = { s with heap := s.heap.push { cls := .type "set", dict := none, data := .set #[] 0 (.fresh 0 0 (!byText w)) } }) ⟨rfl, rfl⟩) fun r s₁ hr => ?_
  cases r with
  | error e => exact hr
  | ok fl =>
    cases fl with
    | ret obj =>
      obtain ⟨rfl, rfl⟩ := hr
      have hS : (s.heap.push { cls := .type "set", dict := none, data := .set #[] 0 (.fresh 0 0 (!byText w)) }).get? s.heap.objs.size = some { cls := .type "set", dict := none, data := .set #[] 0 (.fresh 0 0 (!byText w)) } := Heap.get?_push_size _ rfl
      have hT : Shared.TypeIs { s with heap := s.heap.push { cls := .type "set", dict := none, data := .set #[] 0 (.fresh 0 0 (!byText w)) } } (.ref s.heap.objs.size) "set" := ⟨_, hS, rfl⟩
      have hli := F.called_set.init.lookup
      have hbi := F.called_set.init.bind (.ref s.heap.objs.size)
      repeat (any_goals (first | assumption | wp_step))
      refine codeAny_mono (codeAny_call_builtin (R := wants (fun r s₂ => r = .none ∧ ∃ h' tk, s₂ = { s with heap := h', toks := tk } ∧
          SJ prog w (!byText w) (firstMet (fun i => ns.getD i 0) items.size) h' s.heap.objs.size ∧
          (∀ b o, b < s.heap.objs.size → s.heap.get? b = some o → h'.get? b = some o)) E) F.called_set.init.plain F.entry_set_init (check_set_init_1 hT ?_)) fun r₂ s₂ hr₂ => ?_
      · obtain ⟨ol, hol, hcl, nl, hdl⟩ := hl
        obtain ⟨ocls, odict, odata, oslots⟩ := ol
        simp only at hcl hdl
        subst hcl; subst hdl
        have hol' : (s.heap.push { cls := .type "set", dict := none, data := .set #[] 0 (.fresh 0 0 (!byText w)) }).get? l = some { cls := .type "list", dict := odict, data := .seq items nl, slots := oslots } := Heap.get?_push_of_some _ hol
        have hsls := F.sub_list_set
        have hslf := F.sub_list_frozenset
        have hne : (Value.type "list" == Value.type "dict") = false := by decide
        have hl1 : (s.heap.push { cls := .type "set", dict := none, data := .set #[] 0 (.fresh 0 0 (!byText w)) }).IsList l items := ⟨_, hol', rfl, nl, rfl⟩
        unfold Builtin.«set.__init__» noKeywords Builtin.Frozenset.updateFrom
        generalize hPI : pyIter = PI
        wp_walk
        subst hPI
        refine wpAny_pyIter_list hl1 ?_
        refine wpAny_bind (wpAny_runValue ?_)
        have hlS : l < s.heap.objs.size := Heap.lt_size hol
        have hh3 : A.in1.in1.in1.handled = none := by simp [hh]
        have hneI : l ≠ (s.heap.push { cls := .type "set", dict := none, data := .set #[] 0 (.fresh 0 0 (!byText w)) }).objs.size := by
          rw [Heap.size_push]; exact Nat.ne_of_lt (Nat.lt_succ_of_lt hlS)
        have hSf : s.heap.objs.size ∉ [(s.heap.push { cls := .type "set", dict := none, data := .set #[] 0 (.fresh 0 0 (!byText w)) }).objs.size, l] := by
          rw [Heap.size_push]; simp only [List.mem_cons, List.not_mem_nil, or_false, not_or]
          exact ⟨Nat.ne_of_lt (Nat.lt_succ_self _), Nat.ne_of_gt hlS⟩
        have hval : ∀ (i : Nat) (v : Value), items[i]? = some v → ∃ t, v = .int ((fun i => ns.getD i 0) i) t := fun i v hv =>
          IntsAre.int_at hi i v (by rw [Array.getElem?_toList]; exact hv)
        refine set_loop_exact ((Walks.list hh3 _ l hneI items).toS) s.heap.objs.size
          hSf (fun i => ns.getD i 0) hval (!byText w) hb hdom (items.size - 0) 0 _ (by omega) (Nat.zero_le _)
          ⟨⟨_, Heap.get?_push_size _ rfl, rfl, rfl⟩, (hl1.push _)⟩ ?hS0 ?hR
        case hS0 => exact SJ.fresh (Heap.get?_push_of_some _ hS)
        case hR =>
          intro s' hm hS'
          obtain ⟨h', g', d', tk', os'⟩ := s'
          have eg : g' = s.gens := hm.gens
          have ed : d' = s.drawn := hm.drawn
          have eo : os' = s.os := hm.os
          subst eg; subst ed; subst eo
          show wpAny _ _ _ _ _ _
          refine wpAny_pure ?_
          show wpAny _ _ (ret Value.none) _ _ _
          refine wpAny_pure ⟨rfl, h', tk', rfl, hS', fun b o hb e => ?_⟩
          have hb1 : b ≠ s.heap.objs.size := Nat.ne_of_lt hb
          have hb2 : b ≠ (s.heap.push { cls := .type "set", dict := none, data := .set #[] 0 (.fresh 0 0 (!byText w)) }).objs.size := by
            rw [Heap.size_push]; exact Nat.ne_of_lt (Nat.lt_succ_of_lt hb)
          exact hm.heap b o (by simp only [List.mem_cons, List.not_mem_nil, or_false, not_or]; exact ⟨hb1, hb2⟩) (Heap.get?_push_of_some _ (Heap.get?_push_of_some _ e))
      · cases r₂ with
        | error e => exact hr₂
        | ok fl₂ =>
          cases fl₂ with
          | ret r =>
            obtain ⟨rfl, h', tk, rfl, hS', hk'⟩ := hr₂
            repeat (any_goals (first | assumption | wp_step))
            exact h _ _ hS' hk'
          | _ => exact hr₂.elim
    | _ => exact hr.elim
end
end Mine
end
section
open PySem PySem.W PyProof.Rows
set_option maxRecDepth 100000
namespace Mine
theorem entry_set_iter : entryFor table "set.__iter__" = some Builtin.«frozenset.__iter__» :=
  entryFor_alias (id' := "frozenset.__iter__") (by kernel_rfl) (by first | rfl | decide +kernel | (unfold String.splitOn; simp +decide [String.splitOnAux])) (by decide +kernel) (by kernel_rfl)
theorem owner_seti : Manifest.owners.lookup (String.ofList ['r', 'o', 't', 'a', 'r', 'e', 't', 'i', '_', 't', 'e', 's'].reverse) = some Manifest.sig_set_iterator := by kernel_rfl
theorem slot_seti_next : Slot "set_iterator" "__next__" "set_iterator.__next__" :=
  .of (owner := "set_iterator") (n := "__next__") (by rw [typeLookup_type, builtinLookup_eq_fast]; kernel_rfl) (by decide +kernel) (by decide +kernel) (by decide +kernel)
    (by first | exact .inl (by decide +kernel) | exact .inr (by decide +kernel)) (by rw [isSubtype_type]; kernel_rfl)
theorem entry_seti_next : entryFor table "set_iterator.__next__" = some Builtin.«set_iterator.__next__» := entryFor_of_tree (by kernel_rfl)
theorem args_seti_next (a : Value) : argsOk "set_iterator.__next__" ⟨[a], []⟩ := by
  unfold argsOk; rw [signature?_of (id := "set_iterator.__next__") (n := ['_', '_', 't', 'x', 'e', 'n', '_', '_']) (o := ['r', 'o', 't', 'a', 'r', 'e', 't', 'i', '_', 't', 'e', 's']) (by kernel_rfl) owner_seti]; kernel_rfl
noncomputable def setiObj (slot i : Nat) (a : Addr) (n ep : Nat) : Obj := { cls := .type "set_iterator", data := .fields #[.int slot 0, .int i 0, .ref a, .int n 0, .int ep 0] }
section
variable {prog : Program} {w : World} {A : Around} {E : Value → Shared → Prop} {s : Shared}
theorem pyIter_set {a : Addr} {es : Array (Int × Value)} {ep : Nat} {t : SetTable} {Q : Value → Shared → Prop} (hX : SetX prog w s.heap a es ep t) (hpl : t.plain = true)
    (hQ : Q (.ref s.heap.objs.size) { s with heap := s.heap.push (setiObj 0 0 a es.size ep) }) : wpAny (model prog w) A (pyIter (.ref a)) Q E s := by
  obtain ⟨o, ho, hex, hd, hel, hb, hf⟩ := hX
  have hT : s.TypeIs (.ref a) "set" := ⟨o, ho, hex.1⟩
  refine wpAny_pyIter_slot hT F.slot_set_iter (wpAny_call_entry F.slot_set_iter hT entry_set_iter ?_ (F.args_set_iter_1 _))
  unfold Builtin.«frozenset.__iter__»
  refine wpAny_bind (wpAny_pure ?_)
  refine wpAny_bind ?_
  unfold Builtin.Frozenset.sizeOf
  refine wpAny_bind (wpAny_setEntries_of ho hd hf (wpAny_pure ?_))
  refine wpAny_bind ?_
  unfold setDrawn
  refine wpAny_bind (wpAny_setState_of ho hd hf ?_)
  unfold setsByText
  refine wpAny_bind (wpAny_bind (wpAny_askSetting (wpAny_pure ?_)))
  show wpAny _ _ (pure (!(byText w) && (!t.plain && decide (es.size > 1)))) _ _ _
  rw [hpl]
  simp only [Bool.not_true, Bool.false_and, Bool.and_false]
  refine wpAny_pure ?_
  simp only [Bool.false_eq_true, ↓reduceIte]
  refine wpAny_bind (wpAny_pure ?_)
  unfold setEpoch
  refine wpAny_bind (wpAny_bind (wpAny_setState_of ho hd hf (wpAny_pure ?_)))
  refine wpAny_bind (wpAny_newObj_type (wpAny_pure ⟨_, rfl, "set_iterator", _, ⟨_, Heap.get?_push_size _ rfl, rfl⟩, slot_seti_next.lookup, hQ⟩))
end
theorem erase_perm {α : Type} : ∀ (l : List α) (i : Nat) (h : i < l.length), (l[i] :: l.eraseIdx i).Perm l
  | a :: l, 0, _ => .refl _
  | a :: l, i + 1, h => by
    have h' : i < l.length := by simpa using h
    show (l[i] :: a :: l.eraseIdx i).Perm (a :: l)
    exact (List.Perm.swap _ _ _).trans ((erase_perm l i h').cons a)
theorem pick_go_perm {α : Type} (next : Nat → Nat) : ∀ (fuel k : Nat) (left : List α) (out : Array α), left.length ≤ fuel → (pickOrder.go next fuel k left out).toList.Perm (out.toList ++ left) := by
  intro fuel
  induction fuel with
  | zero =>
    intro k left out h
    have : left = [] := List.eq_nil_of_length_eq_zero (by omega)
    subst this
    unfold pickOrder.go
    simp
  | succ fuel ih =>
    intro k left out h
    unfold pickOrder.go
    by_cases hl : left = []
    · subst hl; simp
    · have hpos : 0 < left.length := List.length_pos_iff.mpr hl
      have hidx : next k % left.length < left.length := Nat.mod_lt _ hpos
      rw [List.getElem?_eq_getElem hidx]
      dsimp only
      refine (ih (k + 1) _ _ (by rw [List.length_eraseIdx_of_lt hidx]; omega)).trans ?_
      rw [Array.toList_push, List.append_assoc]
      exact (erase_perm _ _ hidx).append_left _
theorem pickOrder_perm {α : Type} (next : Nat → Nat) (xs : Array α) : (pickOrder next xs).toList.Perm xs.toList := by
  unfold pickOrder
  have := pick_go_perm next xs.size 0 xs.toList #[] (by simp)
  simpa using this
/-- the order in which the set is walked -/
noncomputable def walkOf (w : World) (a : Addr) (ep : Nat) (es : Array (Int × Value)) : Array (Int × Value) := if byText w = true then pickOrder (w.params.setOrder a ep) es else es
theorem walkOf_perm (w : World) (a : Addr) (ep : Nat) (es : Array (Int × Value)) : (walkOf w a ep es).toList.Perm es.toList := by
  unfold walkOf
  split
  · exact pickOrder_perm _ _
  · exact .refl _
theorem walkOf_size (w : World) (a : Addr) (ep : Nat) (es : Array (Int × Value)) : (walkOf w a ep es).size = es.size := by
  rw [← Array.length_toList, (walkOf_perm w a ep es).length_eq, Array.length_toList]
noncomputable def slotOf (w : World) (t : SetTable) (i : Nat) : Nat := if byText w = true then 0 else slotAt t.place i
section
variable {prog : Program} {w : World} {A : Around} {E : Value → Shared → Prop} {s : Shared}
theorem setNext_at {a : Addr} {es : Array (Int × Value)} {ep : Nat} {t : SetTable} {i : Nat} {Q : Option (Value × Nat) → Shared → Prop} (hX : SetX prog w s.heap a es ep t) (hpl : t.plain = true) (hled : t.led = !byText w) (hok : slotOk t.place = true) (hi : i ≤ es.size)
    (h : Q (((walkOf w a ep es)[i]?).map fun e => (e.2, slotOf w t (i + 1))) s) : wpAny (model prog w) A (setNext a (slotOf w t i) i ep) Q E s := by
  obtain ⟨o, ho, hex, hd, hel, hb, hf⟩ := hX
  have hps : t.place.size = es.size := by
    simp only [SetTable.fits, Bool.and_eq_true, beq_iff_eq] at hf
    exact hf.1
  unfold setNext
  refine wpAny_bind (wpAny_setState_of ho hd hf ?_)
  dsimp only
  unfold setsByText
  refine wpAny_bind (wpAny_bind (wpAny_askSetting (wpAny_pure ?_)))
  show wpAny _ _ (if byText w = true then _ else _) _ _ _
  by_cases hbt : byText w = true
  · rw [if_pos hbt]
    simp only [bne_self_eq_false, Bool.false_eq_true, ↓reduceIte]
    unfold setWalk
    refine wpAny_bind (wpAny_bind (wpAny_setState_of ho hd hf ?_))
    unfold setsByText
    refine wpAny_bind (wpAny_bind (wpAny_askSetting (wpAny_pure ?_)))
    show wpAny _ _ (if byText w = true then _ else _) _ _ _
    rw [if_pos hbt]
    refine wpAny_bind (wpAny_askSetting ?_)
    refine wpAny_pure (wpAny_pure ?_)
    have e1 : walkOf w a ep es = pickOrder (w.params.setOrder a ep) es := by unfold walkOf; rw [if_pos hbt]
    have e2 : ∀ j, slotOf w t j = 0 := fun j => by unfold slotOf; rw [if_pos hbt]
    rw [e1, e2] at h
    rw [e2]
    exact h
  · rw [if_neg hbt]
    have hbf : byText w = false := by simpa using hbt
    show wpAny _ _ (if (!t.plain && decide (es.size > 1)) = true then _ else _) _ _ _
    rw [hpl]
    simp only [Bool.not_true, Bool.false_and, Bool.false_eq_true, ↓reduceIte]
    have hl1 : t.led = true := by rw [hled, hbf]; rfl
    refine wpAny_bind ?_
    show wpAny _ _ (if (!t.led && !es.isEmpty) = true then _ else pure ()) _ _ _
    rw [hl1]
    simp only [Bool.not_true, Bool.false_and, Bool.false_eq_true, ↓reduceIte]
    refine wpAny_pure ?_
    have e1 : walkOf w a ep es = es := by unfold walkOf; rw [if_neg hbt]
    have e2 : ∀ j, slotOf w t j = slotAt t.place j := fun j => by unfold slotOf; rw [if_neg hbt]
    rw [e1, e2] at h
    rw [e2]
    have hbel : SetTable.below t.place (slotAt t.place i) = i := by
      have := List.all_eq_true.mp hok i (List.mem_range.mpr (by omega))
      simpa using this
    rw [hbel]
    refine wpAny_pure ?_
    by_cases hlt : i < es.size
    · have hlt2 : i < t.place.size := by omega
      rw [Array.getElem?_eq_getElem hlt] at h ⊢
      rw [Array.getElem?_eq_getElem hlt2]
      have e3 : slotAt t.place (i + 1) = t.place[i] + 1 := by
        unfold slotAt
        rw [if_neg (by omega)]
        simp [Array.getD, hlt2]
      rw [e3] at h
      exact h
    · rw [Array.getElem?_eq_none (by omega)] at h ⊢
      exact h
end
end Mine
end
section
open PySem PySem.W PyProof.Rows
set_option maxRecDepth 100000
namespace Mine
theorem entry_seti_iter : entryFor table "set_iterator.__iter__" = some Builtin.«dict_keyiterator.__iter__» :=
  entryFor_alias (id' := "dict_keyiterator.__iter__") (by kernel_rfl) (by first | rfl | decide +kernel | (unfold String.splitOn; simp +decide [String.splitOnAux])) (by decide +kernel) (by kernel_rfl)
theorem slot_seti_iter : Slot "set_iterator" "__iter__" "set_iterator.__iter__" :=
  .of (owner := "set_iterator") (n := "__iter__") (by rw [typeLookup_type, builtinLookup_eq_fast]; kernel_rfl) (by decide +kernel) (by decide +kernel) (by decide +kernel)
    (by first | exact .inl (by decide +kernel) | exact .inr (by decide +kernel)) (by rw [isSubtype_type]; kernel_rfl)
theorem args_seti_iter (a : Value) : argsOk "set_iterator.__iter__" ⟨[a], []⟩ := by
  unfold argsOk; rw [signature?_of (id := "set_iterator.__iter__") (n := ['_', '_', 'r', 'e', 't', 'i', '_', '_']) (o := ['r', 'o', 't', 'a', 'r', 'e', 't', 'i', '_', 't', 'e', 's']) (by kernel_rfl) owner_seti]; kernel_rfl
section
variable {prog : Program} {w : World} {A : Around} {E : Value → Shared → Prop} {s : Shared}
theorem seti_upd {h : Heap} {it a : Addr} {slot i n ep : Nat} (slot' i' : Nat) (ho : h.get? it = some (setiObj slot i a n ep)) :
    ((h.update it (Obj.mapFields (·.setIfInBounds 0 (rawInt (slot' : Int))))).update it (Obj.mapFields (·.setIfInBounds 1 (rawInt (i' : Int))))).get? it = some (setiObj slot' i' a n ep) := by
  have h1 : (h.update it (Obj.mapFields (·.setIfInBounds 0 (rawInt (slot' : Int))))).get? it = some (setiObj slot' i a n ep) := by
    rw [Heap.get?_update_self _ ho rfl]; rfl
  rw [Heap.get?_update_self _ h1 rfl]; rfl
theorem SetX.upd {h : Heap} {it a : Addr} {es : Array (Int × Value)} {ep : Nat} {t : SetTable} {f : Obj → Obj} (hX : SetX prog w h a es ep t) (hne : a ≠ it) : SetX prog w (h.update it f) a es ep t := by
  obtain ⟨o, ho, r⟩ := hX
  exact ⟨o, by rw [Heap.get?_update_ne _ _ _ _ hne]; exact ho, r⟩
/-- what a set's walk needs -/
structure SetW (prog : Program) (w : World) (h : Heap) (a : Addr) (es : Array (Int × Value)) (ep : Nat) (t : SetTable) : Prop where
  x : SetX prog w h a es ep t
  plain : t.plain = true
  led : t.led = !byText w
  slots : slotOk t.place = true
theorem pyNext_set_item {it a : Addr} {es : Array (Int × Value)} {ep : Nat} {t : SetTable} {i : Nat} {e : Int × Value} {Q : Option Value → Shared → Prop} (hS : SetW prog w s.heap a es ep t) (hne : a ≠ it) (ho : s.heap.get? it = some (setiObj (slotOf w t i) i a es.size ep)) (he : (walkOf w a ep es)[i]? = some e)
    (hQ : ∀ h', h'.get? it = some (setiObj (slotOf w t (i + 1)) (i + 1) a es.size ep) → SetW prog w h' a es ep t → Heap.SameBut it s.heap h' → Q (some e.2) { s with heap := h' }) :
    wpAny (model prog w) A (pyNext (.ref it)) Q E s := by
  have hT : s.TypeIs (.ref it) "set_iterator" := ⟨_, ho, rfl⟩
  have hi : i ≤ es.size := by
    have h1 := walkOf_size w a ep es
    rcases Nat.lt_or_ge i (walkOf w a ep es).size with h | h
    · omega
    · rw [Array.getElem?_eq_none h] at he; cases he
  unfold pyNext
  refine wpAny_bind (wpAny_attempt (wpAny_callSpecial?_slot (name := Str.ofString "__next__") hT slot_seti_next
    (wpAny_call_entry slot_seti_next hT entry_seti_next ?_ (args_seti_next _))))
  unfold Builtin.«set_iterator.__next__»
  refine wpAny_bind (wpAny_pure ?_)
  refine wpAny_bind (wpAny_fieldsOf ho rfl ?_)
  dsimp only
  obtain ⟨o, hoX, hex, hd, hel, hb, hf⟩ := id hS.x
  refine wpAny_bind (wpAny_setEntries_of hoX hd hf ?_)
  simp only [bne_self_eq_false, Bool.false_eq_true, ↓reduceIte]
  refine wpAny_bind ?_
  show wpAny _ _ (setNext a (slotOf w t i) i ep) _ _ _
  refine setNext_at hS.x hS.plain hS.led hS.slots hi ?_
  rw [he]
  dsimp only [Option.map_some]
  refine wpAny_bind (wpAny_setField ho rfl (by simp) ?_)
  have h1 : (s.heap.update it (Obj.mapFields (·.setIfInBounds 0 (rawInt ((slotOf w t (i + 1) : Nat) : Int))))).get? it = some (setiObj (slotOf w t (i + 1)) i a es.size ep) := by
    rw [Heap.get?_update_self _ ho rfl]; rfl
  refine wpAny_bind (wpAny_setField h1 rfl (by simp) ?_)
  refine wpAny_pure ⟨_, rfl, wpAny_pure (hQ _ ?_ ⟨(hS.x.upd hne).upd hne, hS.plain, hS.led, hS.slots⟩ ((Heap.SameBut.update ..).trans (Heap.SameBut.update ..)))⟩
  rw [Heap.get?_update_self _ h1 rfl]; rfl
theorem pyNext_set_end {it a : Addr} {es : Array (Int × Value)} {ep : Nat} {t : SetTable} {i : Nat} {Q : Option Value → Shared → Prop} (hh : A.handled = none) (hS : SetW prog w s.heap a es ep t) (ho : s.heap.get? it = some (setiObj (slotOf w t i) i a es.size ep)) (hi : i = es.size)
    (hQ : ∀ h', Heap.ExtBut it s.heap h' → Q none { s with heap := h' }) :
    wpAny (model prog w) A (pyNext (.ref it)) Q E s := by
  have hT : s.TypeIs (.ref it) "set_iterator" := ⟨_, ho, rfl⟩
  have he : (walkOf w a ep es)[i]? = none := Array.getElem?_eq_none (by rw [walkOf_size]; omega)
  unfold pyNext
  refine wpAny_bind (wpAny_attempt (wpAny_callSpecial?_slot (name := Str.ofString "__next__") hT slot_seti_next
    (wpAny_call_entry slot_seti_next hT entry_seti_next ?_ (args_seti_next _))))
  unfold Builtin.«set_iterator.__next__»
  refine wpAny_bind (wpAny_pure ?_)
  refine wpAny_bind (wpAny_fieldsOf ho rfl ?_)
  dsimp only
  obtain ⟨o, hoX, hex, hd, hel, hb, hf⟩ := id hS.x
  refine wpAny_bind (wpAny_setEntries_of hoX hd hf ?_)
  simp only [bne_self_eq_false, Bool.false_eq_true, ↓reduceIte]
  refine wpAny_bind ?_
  show wpAny _ _ (setNext a (slotOf w t i) i ep) _ _ _
  refine setNext_at hS.x hS.plain hS.led hS.slots (Nat.le_of_eq hi) ?_
  rw [he]
  dsimp only [Option.map_none]
  refine wpAny_bind (wpAny_setField ho rfl (by simp) ?_)
  show wpAny _ _ (newExc (.type "StopIteration") [] >>= _) _ _ _
  refine wpAny_bind ?_
  simp only [newExc, newTuple]
  refine wpAny_bind (wpAny_newObj_type ?_ (by size_fits))
  refine wpAny_bind (m := firstArgMember _ _) (wpAny_of_eq (a := Value.none) (by first | rfl | (simp only [firstArgMember]; rfl)) ?_)
  refine wpAny_newObj_type ?_ (by size_fits)
  simp only [raiseNew]
  refine wpAny_bind (wpAny_handled ?_)
  rw [show A.in1.handled = none from hh]
  refine wpAny_bind (wpAny_pure (wpAny_throw ?_))
  refine wpAny_bind (wpAny_isInstance (T := "StopIteration") (b := true) ⟨_, Heap.get?_push_size _ rfl, rfl⟩ isSubtype_stop ?_)
  exact wpAny_pure (hQ _ (((Heap.SameBut.update ..).extBut.push _).push _))
end
theorem Walks.set {prog : Program} {w : World} {A : Around} (hh : A.handled = none) (I a : Addr) (hne : a ≠ I) (es : Array (Int × Value)) (ep : Nat) (t : SetTable) :
    Walks prog w A I [I, a] [I] es.size (fun i v => ∃ e, (walkOf w a ep es)[i]? = some e ∧ v = e.2) (fun i h => h.get? I = some (setiObj (slotOf w t i) i a es.size ep) ∧ SetW prog w h a es ep t) where
  sub := fun b hb => by simp at hb; simp [hb]
  frame := fun _ _ _ st hk => ⟨hk I (by simp) _ st.1, ⟨by obtain ⟨o, ho, r⟩ := st.2.x; exact ⟨o, hk a (by simp) _ ho, r⟩, st.2.plain, st.2.led, st.2.slots⟩⟩
  item := fun i s Q E hi st hQ => by
    have hi' : i < (walkOf w a ep es).size := by rw [walkOf_size]; exact hi
    refine pyNext_set_item st.2 hne st.1 (Array.getElem?_eq_getElem hi') fun h' h1 h2 hs' => ?_
    exact hQ _ h' s.toks ⟨_, Array.getElem?_eq_getElem hi', rfl⟩ ⟨h1, h2⟩ fun b o hb e => hs'.extBut b o (fun h => hb (by simp [h])) e
  done := fun s Q E st hQ => pyNext_set_end hh st.2 st.1 rfl fun h' he' => hQ h' s.toks fun b o hb e => he' b o (fun h => hb (by simp [h])) e
  self := fun i s Q E st hQ => by
    have hT : s.TypeIs (.ref I) "set_iterator" := ⟨_, st.1, rfl⟩
    refine wpAny_pyIter_slot hT slot_seti_iter (wpAny_call_entry slot_seti_iter hT entry_seti_iter ?_ (args_seti_iter _))
    exact wpAny_bind (wpAny_pure (wpAny_pure ⟨_, rfl, "set_iterator", _, hT, slot_seti_next.lookup, hQ⟩))
section
variable {prog : Program} {w : World} {A : Around} {E : Value → Shared → Prop} {s : Shared}
theorem collect_set {a : Addr} {es : Array (Int × Value)} {ep : Nat} {t : SetTable} {Q : List Value → Shared → Prop} (hh : A.handled = none) (hS : SetW prog w s.heap a es ep t)
    (hQ : ∀ (acc : Array Value) (h' : Heap) (tk : Nat), acc.toList = (walkOf w a ep es).toList.map (·.2) → (∀ b o, b < s.heap.objs.size → s.heap.get? b = some o → h'.get? b = some o) → s.heap.objs.size ≤ h'.objs.size → Q acc.toList { s with heap := h', toks := tk }) :
    wpAny (model prog w) A (collect (.ref a)) Q E s := by
  obtain ⟨o, hoX, hex, hd, hel, hb, hf⟩ := id hS.x
  have hlt : a < s.heap.objs.size := Heap.lt_size hoX
  unfold collect
  refine wpAny_bind (wpAny_runValue (codeAny_builtin F.entry_proto_collect ?_))
  rw [Around.under_plainId F.plain_proto_collect _]
  show wpAny _ A.in1 (newList [] >>= fun l => again (.builtin "list.__iadd__" ⟨[l, .ref a], []⟩)) _ _ s
  refine wpAny_bind (wpAny_newObj_type ?_)
  refine wpAny_pure ⟨plainId_quiet F.plain_list_iadd _, codeAny_builtin F.entry_list_iadd ?_⟩
  rw [Around.under_plainId F.plain_list_iadd _]
  have hS₁ : (s.heap.push { cls := .type "list", data := .seq ([] : List Value).toArray }).get? s.heap.objs.size = some { cls := .type "list", data := .seq ([] : List Value).toArray } := Heap.get?_push_size _ rfl
  have hX₁ : SetW prog w (s.heap.push { cls := .type "list", data := .seq ([] : List Value).toArray }) a es ep t := ⟨⟨o, Heap.get?_push_of_some _ hoX, hex, hd, hel, hb, hf⟩, hS.plain, hS.led, hS.slots⟩
  have hT : Shared.TypeIs { s with heap := s.heap.push { cls := .type "list", data := .seq ([] : List Value).toArray } } (.ref a) "set" := ⟨o, Heap.get?_push_of_some _ hoX, hex.1⟩
  have h1 : Builtin.List.listSameRef (.ref s.heap.objs.size) (.ref a) = false := by simp [Builtin.List.listSameRef, Nat.ne_of_gt hlt]
  show wpAny _ A.in1 (Builtin.List.listExtendWith (.ref s.heap.objs.size) (.ref a) (.ref s.heap.objs.size)) _ _ _
  unfold Builtin.List.listExtendWith
  refine wpAny_bind (wpAny_typeOf hT ?_)
  rw [if_neg (by rw [h1]; decide)]
  refine wpAny_bind (pyIter_set hX₁.x hX₁.plain ?_)
  have hX₂ : SetW prog w ((s.heap.push { cls := .type "list", data := .seq ([] : List Value).toArray }).push (setiObj 0 0 a es.size ep)) a es ep t := ⟨⟨o, Heap.get?_push_of_some _ (Heap.get?_push_of_some _ hoX), hex, hd, hel, hb, hf⟩, hS.plain, hS.led, hS.slots⟩
  have hT2 : Shared.TypeIs { s with heap := (s.heap.push { cls := .type "list", data := .seq ([] : List Value).toArray }).push (setiObj 0 0 a es.size ep) } (.ref a) "set" := ⟨o, Heap.get?_push_of_some _ (Heap.get?_push_of_some _ hoX), hex.1⟩
  refine wpAny_bind (wpAny_holding ?_)
  unfold Builtin.List.listLengthHint
  refine wpAny_bind (wpAny_specialOf hT2 F.slot_set_len.lookup ?_)
  (generalize hid : ("set.__len__" : String) = id0; (fail_if_success (clear hid id0)); wp_delta; rw [show splitId id0 = some ("set", "__len__") from by subst hid; decide +kernel]; subst hid)
  refine wpAny_bind (wpAny_isInstance (b := true) hT2 sub_set_self ?_)
  refine wpAny_ite_false (by decide) ?_
  refine wpAny_ite_true (by decide +kernel) ?_
  refine wpAny_bind (wpAny_typeOf hT2 ?_)
  refine wpAny_pure ?_
  refine wpAny_ite_true (by decide +kernel) ?_
  refine wpAny_bind (wpAny_rule ?_)
  refine wpAny_bind ?_
  unfold Builtin.List.listTouch
  have ho1 : ((s.heap.push { cls := .type "list", data := .seq ([] : List Value).toArray }).push (setiObj 0 0 a es.size ep)).get? s.heap.objs.size = some (seqObj "list" #[] 0) := Heap.get?_push_of_some _ hS₁
  refine wpAny_bind (listUpdate_at ho1 rfl ?_ (Nat.zero_le _) (by simp [PySem.sizeLine_eq]))
  have ho2 := get?_update_seq ho1 (·.push .none)
  refine listUpdate_at ho2 rfl ?_ (by simp [PySem.sizeLine_eq]) (by simp [PySem.sizeLine_eq])
  have ho3 := get?_update_seq ho2 (·.pop)
  have hI : (s.heap.push { cls := .type "list", data := .seq ([] : List Value).toArray }).objs.size = s.heap.objs.size + 1 := Heap.size_push ..
  have hSI : s.heap.objs.size ≠ s.heap.objs.size + 1 := Nat.ne_of_lt (Nat.lt_succ_self _)
  have haS : a ≠ s.heap.objs.size := Nat.ne_of_lt hlt
  have haI : a ≠ s.heap.objs.size + 1 := Nat.ne_of_lt (Nat.lt_succ_of_lt hlt)
  have hsl : slotOf w t 0 = 0 := by unfold slotOf slotAt; split <;> rfl
  have goI : ((s.heap.push { cls := .type "list", data := .seq ([] : List Value).toArray }).push (setiObj 0 0 a es.size ep)).get? (s.heap.objs.size + 1) = some (setiObj (slotOf w t 0) 0 a es.size ep) := by
    rw [hsl, ← hI]; exact Heap.get?_push_size _ rfl
  dsimp only
  rw [hI]
  refine wpAny_pure ⟨plainId_quiet F.plain_extend_loop _, ?_⟩
  refine codeAny_extend_loopS (Walks.set (prog := prog) (w := w) (A := A.in1) (by simpa using hh) (s.heap.objs.size + 1) a haI es ep t).toS (fits_of_scanBound hb) s.heap.objs.size (by simp [hSI, Ne.symm haS]) (.ref s.heap.objs.size) es.size 0 _ _ _ rfl (Nat.zero_le _)
    ⟨?_, (hX₂.x.upd haS).upd haS, hS.plain, hS.led, hS.slots⟩ ho3 (ItemsOf.nil _) fun s' acc' c' hm hS' hacc => ?_
  · show Heap.get? _ _ = _
    rw [Heap.get?_update_ne _ _ _ _ (Ne.symm hSI), Heap.get?_update_ne _ _ _ _ (Ne.symm hSI)]
    exact goI
  · obtain ⟨h', g', d', tk', os'⟩ := s'
    have eg : g' = s.gens := hm.gens
    have ed : d' = s.drawn := hm.drawn
    have eo : os' = s.os := hm.os
    subst eg; subst ed; subst eo
    show wpAny _ A (load s.heap.objs.size >>= _) _ _ _
    refine wpAny_bind (wpAny_load hS' ?_)
    refine wpAny_pure (hQ acc' h' tk' ?_ ?_ ?_)
    · refine List.ext_getElem? fun j => ?_
      rw [List.getElem?_map, Array.getElem?_toList, Array.getElem?_toList]
      rcases Nat.lt_or_ge j acc'.size with hj | hj
      · rw [Array.getElem?_eq_getElem hj]
        obtain ⟨e, he, hv⟩ := hacc.2 j _ (Array.getElem?_eq_getElem hj)
        rw [he, hv]; rfl
      · rw [Array.getElem?_eq_none hj, Array.getElem?_eq_none (by rw [walkOf_size, ← hacc.1]; exact hj)]; rfl
    · intro b ob hbs e
      refine hm.heap b ob ?_ ?_
      · simp only [List.mem_cons, List.not_mem_nil, or_false, not_or]
        exact ⟨Nat.ne_of_lt hbs, Nat.ne_of_lt (Nat.lt_succ_of_lt hbs)⟩
      · show Heap.get? _ _ = _
        rw [Heap.get?_update_ne _ _ _ _ (Nat.ne_of_lt hbs), Heap.get?_update_ne _ _ _ _ (Nat.ne_of_lt hbs)]
        exact Heap.get?_push_of_some _ (Heap.get?_push_of_some _ e)
    · exact Nat.le_of_lt (Heap.lt_size hS')
theorem sorted_set {a : Addr} {es : Array (Int × Value)} {ep : Nat} {t : SetTable} {ks : List Int} {h₀ : Heap} {L : Addr} {m : Str → Option Value} {news : List (Addr × Obj)} {Q : Value → Shared → Prop} (hh : A.handled = none)
    (F : Fr h₀ L s.heap m) (N : News h₀ L s.heap news) (hS : SetW prog w s.heap a es ep t) (hi : IntsAre (es.toList.map (·.2)) ks) (h3 : ks.length ≤ 3)
    (h : ∀ (D : Addr) (vs' : List Value) (ns' : List Int) (c : Nat) (h' : Heap) (tk : Nat), Fr h₀ L h' m → News h₀ L h' ((D, listOf vs'.toArray c) :: news) → (∀ p ∈ news, p.1 < D) → IntsAre vs' ns' → ns'.Perm ks → ns'.Pairwise (· ≤ ·) → Q (.ref D) { s with heap := h', toks := tk }) :
    wpAny (model prog w) A (call (.builtin "sorted") [.ref a]) Q E s := by
  refine Calls.call_function_entry kind_sorted plain_sorted entry_sorted (args_sorted1 _) ?_
  unfold Builtin.«sorted»
  refine wpAny_bind (m := checkCount "sorted" 1 1 _) (wpAny_pure ?_)
  refine wpAny_bind (collect_set (by simpa using hh) hS fun acc h' tk hacc hk hsz => ?_)
  obtain ⟨ks', hi', hp'⟩ := ints_perm ((walkOf_perm w a ep es).map (·.2)) hi
  rw [← hacc] at hi'
  have hoL : (h'.push (seqObj "list" acc.toList.toArray 0)).get? h'.objs.size = some (seqObj "list" acc.toList.toArray 0) := Heap.get?_push_size _ rfl
  have h64 : acc.toList.length < 64 := by
    have h1 := hi'.length
    have h2 := hp'.length_eq
    omega
  refine wpAny_bind (wpAny_newList ?_ (by rw [PySem.sizeLine_eq]; omega))
  refine wpAny_bind (wpAny_holding (wpAny_call_entry (s := { s with heap := h'.push (seqObj "list" acc.toList.toArray 0), toks := tk }) slot_list_sort ⟨_, hoL, rfl⟩ entry_list_sort (list_sort_tree hoL hi' h64 fun out ns' a1 a2 a3 => ⟨_, rfl, ?_⟩) (args_list_sort _)))
  have old : ∀ b o, s.heap.get? b = some o → (sortedHeap (h'.push (seqObj "list" acc.toList.toArray 0)) h'.objs.size acc.toList out).get? b = some o := fun b o e => by
    have hb : b < s.heap.objs.size := Heap.lt_size e
    rw [sortedHeap_old (Nat.ne_of_lt (Nat.lt_of_lt_of_le hb hsz)) (by rw [size_push']; exact Nat.lt_succ_of_lt (Nat.lt_of_lt_of_le hb hsz))]
    exact Heap.get?_push_of_some _ (hk b o hb e)
  obtain ⟨e, he⟩ := sortedHeap_at (out := out) hoL
  refine wpAny_pure ⟨_, rfl, h h'.objs.size out.toList ns' e _ tk (F.kept old) ?_ (fun p hp => Nat.lt_of_lt_of_le (Heap.lt_size (N p hp).1) hsz) a1 (a2.trans hp') a3⟩
  exact News.kept_cons F N old hsz he
theorem SJ.walk {led : Bool} {l : List Int} {h : Heap} {a : Addr} (x : SJ prog w led l h a) (hled : led = !byText w) (hn : l.Nodup) (hl : l.length ≤ 3) (hd : ∀ x ∈ l, -3 ≤ x ∧ x ≤ 3) :
    ∃ es ep t ks, SetW prog w h a es ep t ∧ IntsAre (es.toList.map (·.2)) ks ∧ ks.Perm l := by
  obtain ⟨es, ep, ks, hX, hi, hp⟩ := x
  have hok := tabOf_ok led hn hl hd
  simp only [tabOk, Bool.and_eq_true, Bool.not_eq_true', beq_iff_eq] at hok
  exact ⟨es, ep, _, ks, ⟨hX, hok.1.1.1, hok.2.trans hled, hok.1.1.2⟩, hi, hp⟩
/-- set(l) of a ledger list of at most three small ints -/
theorem set_N {l : Addr} {its : List Value} {ns : List Int} {n : Nat} {h₀ : Heap} {L : Addr} {m : Str → Option Value} {news : List (Addr × Obj)} {Q : Value → Shared → Prop} (hh : A.handled = none)
    (F : Fr h₀ L s.heap m) (N : News h₀ L s.heap news) (hm : (l, listOf its.toArray n) ∈ news) (hi : IntsAre its ns) (h3 : ns.length ≤ 3) (hd : ∀ x ∈ ns, -3 ≤ x ∧ x ≤ 3)
    (h : ∀ (D : Addr) (h' : Heap) (tk : Nat), Fr h₀ L h' m → News h₀ L h' news → SJ prog w (!byText w) (firstMet (fun i => ns.getD i 0) ns.length) h' D → Q (.ref D) { s with heap := h', toks := tk }) :
    wpAny (model prog w) A (call (.type "set") [.ref l]) Q E s := by
  have hsz : its.toArray.size = ns.length := by rw [List.size_toArray, hi.length]
  refine call_set_exact (items := its.toArray) (ns := ns) hh ⟨_, (N _ hm).1, rfl, n, rfl⟩ (by simpa using hi) (by omega) (fun i hlt => ?_) fun h' tk hS hk => ?_
  · have hlt' : i < ns.length := by omega
    have e : ns.getD i 0 = ns[i] := by simp [hlt']
    rw [e]
    exact hd _ (List.getElem_mem _)
  · rw [hsz] at hS
    refine h _ h' tk (F.kept fun b o e => hk b o (Heap.lt_size e) e) (fun p hp => ⟨hk _ _ (Heap.lt_size (N p hp).1) (N p hp).1, (N p hp).2⟩) hS
theorem sorted_N3 {a : Addr} {l : List Int} {h₀ : Heap} {L : Addr} {m : Str → Option Value} {news : List (Addr × Obj)} {Q : Value → Shared → Prop} (hh : A.handled = none)
    (F : Fr h₀ L s.heap m) (N : News h₀ L s.heap news) (hS : SJ prog w (!byText w) l s.heap a) (hn : l.Nodup) (hl : l.length ≤ 3) (hd : ∀ x ∈ l, -3 ≤ x ∧ x ≤ 3)
    (h : ∀ (D : Addr) (vs' : List Value) (ns' : List Int) (c : Nat) (h' : Heap) (tk : Nat), Fr h₀ L h' m → News h₀ L h' ((D, listOf vs'.toArray c) :: news) → (∀ p ∈ news, p.1 < D) → IntsAre vs' ns' → ns'.Perm l → ns'.Pairwise (· ≤ ·) → Q (.ref D) { s with heap := h', toks := tk }) :
    wpAny (model prog w) A (call (.builtin "sorted") [.ref a]) Q E s := by
  obtain ⟨es, ep, t, ks, hW, hi, hp⟩ := hS.walk rfl hn hl hd
  exact sorted_set hh F N hW hi (by rw [hp.length_eq]; exact hl) fun D vs' ns' c h' tk F' N' l1 i1 p1 o1 => h D vs' ns' c h' tk F' N' l1 i1 (p1.trans hp) o1
end
end Mine
end
section
open PySem PySem.W PyProof.Rows
namespace Mine
section
variable {prog : Program} {w : World} {A : Around} {h₀ : Heap} {L : Addr} {m : Str → Option Value} {env : Env} {ct elt : PySem.Expr} {x : Str} {scope : Scope} {cl : List (Str × Addr)} {s : Shared} {S : List (Addr × Obj) → Prop} {Fin : List Value → List (Addr × Obj) → Prop} {news : List (Addr × Obj)}
/-- a comprehension over rows, with a test, whose elements are ints -/
theorem comp_filt_rows {as : List Addr} {cs : List Cel} (G : List Int → List Int → List Int) (hl : cs.length = as.length) (hc : CelsOk cs)
    (turn : ∀ r its (xs : List Int) (nn : Nat) I oI C oC D m₂ ys l h tk (E' : Value → Shared → Prop), (r, listOf its.toArray nn) ∈ MatL as cs → xs ∈ rowsOf cs → IntsAre its xs → its.length = xs.length → IntsAre ys l → LCg.NsObj oC m₂ → m₂ x = some (.ref r) → Fr h₀ L h m → News h₀ L h ((I, oI) :: (C, oC) :: (D, LCg.lst ys) :: news) → LCg.Off3 I C D news → ((@Ne Nat I C) ∧ (@Ne Nat I D) ∧ (@Ne Nat C D)) →
      wpAny (model prog w) A (isTrue ct (compEnvC scope cl C env) (eval ct (compEnvC scope cl C env))) (fun b s' => if b = true then wpAny (model prog w) A (eval elt (compEnvC scope cl C env)) (LCg.CompEnd h₀ L m { s with heap := h, toks := tk } I oI C oC D (LCg.lst ys) S (fun y news' => KCiEl news l (G l xs) y news')) E' s'
        else LCg.CompEnd h₀ L m { s with heap := h, toks := tk } I oI C oC D (LCg.lst ys) S (fun _ news' => KCiNo news l (G l xs) news') Value.none s') E' { s with heap := h, toks := tk })
    (fin : ∀ ys, IntsAre ys ((rowsOf cs).foldl G []) → Fin ys news) : LCt.CompRestT prog w A h₀ L m env ct elt x scope cl s S (fun i v => (as.map Value.ref).toArray[i]? = some v) Fin (as.map Value.ref).toArray.size 0 [] news := by
  rw [show (as.map Value.ref).toArray.size = as.length by simp]
  have key : ∀ (j i : Nat) (ys : List Value), i + j = as.length → IntsAre ys (((rowsOf cs).take i).foldl G []) → LCt.CompRestT prog w A h₀ L m env ct elt x scope cl s S (fun i v => (as.map Value.ref).toArray[i]? = some v) Fin j i ys news := by
    intro j
    induction j with
    | zero =>
      intro i ys hi hy
      refine LCt.CompRestT.zero (fin ys ?_)
      rw [List.take_of_length_le (by rw [rowsOf_length]; omega)] at hy
      exact hy
    | succ j ih =>
      intro i ys hi hy
      refine LCt.CompRestT.succ ?_
      intro v I oI C oC D m₂ h tk E' hv hC hx F N off ne
      have hia : i < as.length := by omega
      have e1 : as[i]? = some as[i] := List.getElem?_eq_getElem hia
      have e2 : cs[i]? = some cs[i] := List.getElem?_eq_getElem (by omega)
      have hv' : v = .ref as[i] := by
        simp only [List.getElem?_toArray, List.getElem?_map, e1, Option.map_some, Option.some.injEq] at hv
        exact hv.symm
      rw [hv'] at hx
      have hmem : cs[i] ∈ cs := List.mem_of_getElem? e2
      have hs : ((rowsOf cs).take (i + 1)).foldl G [] = G (((rowsOf cs).take i).foldl G []) cs[i].2.1 := by
        unfold rowsOf
        rw [List.take_add_one, List.getElem?_map, e2]; simp
      refine wpAny_mono (turn as[i] cs[i].1 cs[i].2.1 cs[i].2.2 I oI C oC D m₂ ys _ h tk E' (matL_mem e1 e2) (List.mem_map_of_mem hmem) (hc _ hmem) (hc _ hmem).length hy hC hx F N off ne) (fun b s₂ hq => ?_) fun _ _ e => e
      cases b with
      | true =>
        simp only [if_true] at hq ⊢
        refine wpAny_mono hq (fun y s₃ hr => ?_) fun _ _ e => e
        obtain ⟨h', tk', nw, e, F', N', off', hS, hn, a, t', hy', hr'⟩ := hr
        rw [hn] at N' off' hS
        refine ⟨h', tk', news, e, F', N', off', hS, ?_⟩
        rw [hy']
        refine ih (i + 1) _ (by omega) ?_
        rw [hs, hr']
        exact IntsAre.append hy (.cons a t' .nil)
      | false =>
        simp only [Bool.false_eq_true, if_false] at hq ⊢
        obtain ⟨h', tk', nw, e, F', N', off', hS, hn, hr'⟩ := hq
        rw [hn] at N' off' hS
        refine ⟨h', tk', news, e, F', N', off', hS, ih (i + 1) _ (by omega) ?_⟩
        rw [hs, hr']
        exact hy
  exact key as.length 0 [] (by omega) (by rw [List.take_zero]; exact .nil)
end
/-- the roots -/
noncomputable def rootG (l xs : List Int) : List Int := if xs.length = 2 then l ++ [0 - xs.getD 0 0] else l
noncomputable def rootsOf (rows : List (List Int)) : List Int := rows.foldl rootG []
noncomputable def idxVal (roots g : List Int) (r : Int) : Int := (roots.foldl (fun l o => if o ≠ r then l ++ [o] else l) []).foldl (fun v o => v * (r - o)) (zatP g r)
noncomputable def idxTerm (roots g : List Int) (r : Int) : Int := if (roots.count r) % 2 = 1 ∧ idxVal roots g r ≠ 0 then (if idxVal roots g r > 0 then 1 else -1) else 0
noncomputable def indexP (roots g : List Int) : Int := ((firstMet (fun i => roots.getD i 0) roots.length).map (idxTerm roots g)).sum
theorem sum_perm {l l' : List Int} (p : l.Perm l') : l.sum = l'.sum := by
  induction p with
  | nil => rfl
  | cons x _ ih => rw [List.sum_cons, List.sum_cons, ih]
  | swap x y l => simp only [List.sum_cons]; omega
  | trans _ _ a b => exact a.trans b
end Mine
namespace Mine
section
variable {prog : Program} {w : World} {A : Around} {E : Value → Shared → Prop} {s : Shared} {env : Env} {h₀ : Heap} {Q : Flow → Shared → Prop}
inductive CEnd (h₀ : Heap) (L c : Addr) (news : List (Addr × Obj)) (J : (Str → Option Value) → Prop) (I : Addr) (oI : Obj) (s₁ s₂ : Shared) : Prop
  | mk (h' : _) (tk : _) (m' : _) (oc' : _)
    (c0 : s₂ = { s₁ with heap := h', toks := tk })
    (c1 : Fr h₀ L h' m')
    (c2 : News h₀ L h' ((I, oI) :: (c, oc') :: news))
    (c3 : (∃ v, oc'.data = .cell v))
    (c4 : J m') : CEnd h₀ L c news J I oI s₁ s₂
noncomputable def CPost (h₀ : Heap) (L c : Addr) (news : List (Addr × Obj)) (J : (Str → Option Value) → Prop) (I : Addr) (oI : Obj) (s₁ : Shared) (Q : Flow → Shared → Prop) (f : Flow) (s₂ : Shared) : Prop :=
  match f with
  | .ret v => Q (.ret v) s₂
  | .brk => Q .next s₂
  | _ => CEnd h₀ L c news J I oI s₁ s₂
inductive ForCAt (prog : Program) (w : World) (A : Around) (h₀ : Heap) (env : Env) (c : Addr) (body : List Stmt) (Q : Flow → Shared → Prop) (E : Value → Shared → Prop) (xv : Value) (s₁ : Shared) : Prop
  | mk (l : Addr) (its : List Value) (ns : List Int) (nn : Nat) (m₀ : Str → Option Value) (oc : Obj) (v₀ : Option Value) (news : List (Addr × Obj)) (J : Nat → (Str → Option Value) → Prop)
    (c0 : xv = .ref l)
    (c1 : A.handled = none)
    (c2 : (l, listOf its.toArray nn) ∈ news)
    (c3 : IntsAre its ns)
    (c4 : Fr h₀ env.locals s₁.heap m₀)
    (c5 : News h₀ env.locals s₁.heap ((c, oc) :: news))
    (c6 : oc.data = .cell v₀)
    (c7 : (∀ p ∈ news, p.1 ≠ c))
    (c8 : J 0 m₀)
    (c9 : (∀ (i : Nat) (n : Int) (t : Tok) (oc : Obj) m₁ (I : Addr) (oI : Obj) h tk, ns[i]? = some n → J i m₁ → oc.data = .cell (some (.int n t)) → (∀ p ∈ (c, oc) :: news, p.1 ≠ I) → Fr h₀ env.locals h m₁ → News h₀ env.locals h ((I, oI) :: (c, oc) :: news) →
      wpAny (model prog w) A (execs body env) (CPost h₀ env.locals c news (J (i + 1)) I oI { s₁ with heap := h, toks := tk } Q) E { s₁ with heap := h, toks := tk }))
    (c10 : ∀ m₁ oc h tk, J ns.length m₁ → (∃ v, oc.data = .cell v) → Fr h₀ env.locals h m₁ → News h₀ env.locals h ((c, oc) :: news) → Q .next { s₁ with heap := h, toks := tk }) : ForCAt prog w A h₀ env c body Q E xv s₁
inductive ForCInv (h₀ : Heap) (L c : Addr) (news : List (Addr × Obj)) (ns : List Int) (J : Nat → (Str → Option Value) → Prop) (I l : Addr) (s₁ : Shared) (k : Nat) (s' : Shared) : Prop
  | mk (h' : Heap) (tk : Nat) (i : Nat) (m' : Str → Option Value) (oc : Obj) (c0 : s' = { s₁ with heap := h', toks := tk }) (c1 : i ≤ ns.length) (c2 : k = ns.length + 1 - i) (c3 : J i m') (c4 : Fr h₀ L h' m') (c5 : News h₀ L h' ((c, oc) :: news)) (c6 : ∃ v, oc.data = .cell v) (c7 : h'.IsListIter I l i) : ForCInv h₀ L c news ns J I l s₁ k s'
/-- a for over a ledger list of ints whose name is a cell -/
theorem For_cell {x : Str} {px pos : Pos} {iter : PySem.Expr} {body : List Stmt} {c : Addr} (h₀ : Heap) (hk : env.scope.kind = .function) (hx : env.kindOf x = some .cell) (hc : env.cells.lookup x = some c)
    (h : wpAny (model prog w) A (eval iter env) (ForCAt prog w A h₀ env c body Q E) E s)
    (hs : ∀ x, foldedSetIterable iter env x = pure x := by intro _; rfl)
    (hE : PassesOwn (model prog w) A env E := by passes_own) :
    wpAny (model prog w) A (exec (.For (.Name x px) iter body [] pos) env) Q E s := by
  refine wpAny_For (wpAny_mono h (fun xv s₁ h₁ => ?_) fun _ _ e => e) hs
  obtain ⟨l, its, ns, nn, m₀, oc₀, v₀, news, J, rfl, hh, hl, hi, F, N, hd₀, hoc, hJ, turn, done⟩ := h₁
  have hls : s₁.heap.IsList l its.toArray := ⟨_, (N _ (List.mem_cons_of_mem _ hl)).1, rfl, nn, rfl⟩
  have hlt : l < s₁.heap.objs.size := Heap.lt_size (N _ (List.mem_cons_of_mem _ hl)).1
  have hLlt : env.locals < s₁.heap.objs.size := F.ns.lt
  have hI₀ : h₀.get? s₁.heap.objs.size = none := next_is_new F
  have hsz : its.toArray.size = ns.length := by rw [List.size_toArray, hi.length]
  have hlow : ∀ p ∈ (c, oc₀) :: news, p.1 < s₁.heap.objs.size := fun p hp => Heap.lt_size (N p hp).1
  refine wpAny_pyIter_list hls ?_
  have W := Walks.list (prog := prog) (w := w) (A := A) hh s₁.heap.objs.size l (Nat.ne_of_lt hlt) its.toArray
  have up1 : ∀ b o, s₁.heap.get? b = some o → (s₁.heap.push { cls := .type "list_iterator", data := .fields #[.ref l, .int 0 0] }).get? b = some o := fun b o e => Heap.get?_push_of_some _ e
  have st0 : (s₁.heap.push { cls := .type "list_iterator", data := .fields #[.ref l, .int 0 0] }).IsListIter s₁.heap.objs.size l 0 := ⟨_, Heap.get?_push_size _ rfl, rfl, rfl⟩
  generalize hI : s₁.heap.objs.size = I at *
  generalize hH1 : s₁.heap.push { cls := .type "list_iterator", data := .fields #[.ref l, .int 0 0] } = H1 at *
  have hcI : c ≠ I := Nat.ne_of_lt (hlow (c, oc₀) List.mem_cons_self)
  have hcL : c ≠ env.locals := (N (c, oc₀) List.mem_cons_self).2.1
  have hc₀ : h₀.get? c = none := (N (c, oc₀) List.mem_cons_self).2.2
  have hLI : env.locals ≠ I := Nat.ne_of_lt hLlt
  refine codeAny_forLoop
    (ForCInv h₀ env.locals c news ns J I l s₁) ?_ (ns.length + 1)
    ⟨H1, s₁.toks, 0, m₀, oc₀, rfl, Nat.zero_le _, rfl, hJ, F.keeps up1, fun p hp => ⟨up1 _ _ (N p hp).1, (N p hp).2⟩, ⟨_, hd₀⟩, st0⟩
  rintro k s' ⟨h', tk, i, m', oc, rfl, hile, rfl, hJi, F', N', ⟨vc, hdc⟩, hit⟩
  have hls' : h'.IsList l its.toArray := ⟨_, (N' _ (List.mem_cons_of_mem _ hl)).1, rfl, nn, rfl⟩
  by_cases hlt' : i < ns.length
  · refine W.item i _ _ _ (by omega) ⟨hit, hls'⟩ fun v h₂ tk₂ hPv hst₂ hk₂ => ?_
    have k2 : ∀ b o, b ≠ I → h'.get? b = some o → h₂.get? b = some o := fun b o hb e => hk₂ b o (by simpa using hb) e
    obtain ⟨t, hxi⟩ := hi.get i ns[i] (by simp [hlt'])
    have hv : v = .int ns[i] t := by
      have hv' : its[i]? = some v := by simpa using hPv
      rw [hxi] at hv'; exact (Option.some.inj hv').symm
    subst hv
    have hcg : h₂.get? c = some oc := k2 _ _ hcI (N' (c, oc) List.mem_cons_self).1
    refine wpAny_assign_Name (wpAny_storeName_cell hk hx hc ⟨oc, hcg, hdc⟩ fun h₃ hc₃ hs₃ => ?_)
    obtain ⟨oc', hoc', hdc'⟩ := hc₃
    have k3 : ∀ b o, b ≠ c → h₂.get? b = some o → h₃.get? b = some o := fun b o hb e => hs₃.extBut b o hb e
    obtain ⟨oI, hoI, hcI', hdI⟩ := hst₂.1
    have hoI3 : h₃.get? I = some oI := k3 _ _ (Ne.symm hcI) hoI
    have F₂ : Fr h₀ env.locals h₂ m' := ⟨F'.ns.at' fun o e => k2 _ o hLI e, fun b o e => k2 b o (fun q => by rw [q, hI₀] at e; cases e) (F'.keep b o e), F'.above⟩
    have F₃ : Fr h₀ env.locals h₃ m' := F₂.change hs₃ hcL hc₀
    have N₃ : News h₀ env.locals h₃ ((I, oI) :: (c, oc') :: news) := fun p hp => by
      rcases List.mem_cons.mp hp with rfl | hp
      · exact ⟨hoI3, Ne.symm hLI, hI₀⟩
      · rcases List.mem_cons.mp hp with rfl | hp
        · exact ⟨hoc', hcL, hc₀⟩
        · have z := N' p (List.mem_cons_of_mem _ hp)
          exact ⟨k3 _ _ (hoc p hp) (k2 _ _ (Nat.ne_of_lt (hlow p (List.mem_cons_of_mem _ hp))) z.1), z.2⟩
    refine wpAny_passesOwn hE (wpAny_mono (turn i ns[i] t oc' m' I oI h₃ tk₂ (by simp [hlt']) hJi hdc' (fun p hp => ?_) F₃ N₃) (fun f s₂ p => ?_) fun _ _ e => e)
    · rcases List.mem_cons.mp hp with rfl | hp
      · exact hcI
      · exact Nat.ne_of_lt (hlow p (List.mem_cons_of_mem _ hp))
    · have fin : CEnd h₀ env.locals c news (J (i + 1)) I oI { s₁ with heap := h₃, toks := tk₂ } s₂ → ∃ mm, mm < ns.length + 1 - i ∧ ForCInv h₀ env.locals c news ns J I l s₁ mm s₂ := by
        rintro ⟨h₄, tk₄, m₄, oc₄, rfl, F₄, N₄, hd₄, hJ₄⟩
        exact ⟨ns.length + 1 - (i + 1), by omega, h₄, tk₄, i + 1, m₄, oc₄, rfl, hlt', rfl, hJ₄, F₄, fun p hp => N₄ p (List.mem_cons_of_mem _ hp), hd₄, oI, (N₄ (I, oI) List.mem_cons_self).1, hcI', hdI⟩
      cases f with
      | ret v => exact p
      | brk => exact p
      | next => exact fin p
      | cont => exact fin p
  · obtain rfl : i = ns.length := Nat.le_antisymm hile (Nat.not_lt.mp hlt')
    refine W.done _ _ _ ⟨by rw [hsz]; exact hit, hls'⟩ fun h₂ tk₂ hk₂ => ?_
    have k2 : ∀ b o, b ≠ I → h'.get? b = some o → h₂.get? b = some o := fun b o hb e => hk₂ b o (by simpa using hb) e
    have F₂ : Fr h₀ env.locals h₂ m' := ⟨F'.ns.at' fun o e => k2 _ o hLI e, fun b o e => k2 b o (fun q => by rw [q, hI₀] at e; cases e) (F'.keep b o e), F'.above⟩
    refine wpAny_execs_nil ?_
    refine done m' oc h₂ tk₂ hJi ⟨vc, hdc⟩ F₂ fun p hp => ⟨k2 _ _ ?_ (N' p hp).1, (N' p hp).2⟩
    rcases List.mem_cons.mp hp with rfl | hp
    · exact hcI
    · exact Nat.ne_of_lt (hlow p (List.mem_cons_of_mem _ hp))
end
end Mine
namespace Mine
theorem kst_offN {ps : List (Str × Value)} {stored : List Str} {m₀ m₁ : Str → Option Value} (h1 : ∀ p ∈ ps, m₁ p.1 = some p.2) (h2 : ∀ z, (∀ p ∈ ps, z ≠ p.1) → stored.contains z = false → m₁ z = m₀ z) : kstB (fun z => if stored.contains z then m₁ z else m₀ z) ps = m₁ := by
  funext y
  refine kstB_eq h1 fun hn => ?_
  show (if stored.contains y = true then m₁ y else m₀ y) = m₁ y
  cases h3 : stored.contains y with
  | true => simp
  | false => simp only [Bool.false_eq_true, if_false]; exact (h2 y hn h3).symm
section
variable {prog : Program} {w : World} {A : Around} {E : Value → Shared → Prop} {s : Shared} {env : Env} {h₀ : Heap} {Q : Flow → Shared → Prop} {σ : Type}
inductive SCEnd (h₀ : Heap) (L c : Addr) (news : List (Addr × Obj)) (ps : σ → List (Str × Value)) (stored : List Str) (m₀ : Str → Option Value) (P : σ → Prop) (I : Addr) (oI : Obj) (s₁ s₂ : Shared) : Prop
  | mk (st : _) (h' : _) (tk : _) (m' : _) (oc' : _)
    (c0 : s₂ = { s₁ with heap := h', toks := tk })
    (c1 : Fr h₀ L h' m')
    (c2 : News h₀ L h' ((I, oI) :: (c, oc') :: news))
    (c3 : (∃ v, oc'.data = .cell v))
    (c4 : (∀ p ∈ ps st, m' p.1 = some p.2))
    (c5 : (∀ z, (∀ p ∈ ps st, z ≠ p.1) → stored.contains z = false → m' z = m₀ z))
    (c6 : P st) : SCEnd h₀ L c news ps stored m₀ P I oI s₁ s₂
noncomputable def SCPost (h₀ : Heap) (L c : Addr) (news : List (Addr × Obj)) (ps : σ → List (Str × Value)) (stored : List Str) (m₀ : Str → Option Value) (P : σ → Prop) (I : Addr) (oI : Obj) (s₁ : Shared) (Q : Flow → Shared → Prop) (f : Flow) (s₂ : Shared) : Prop :=
  match f with
  | .ret v => Q (.ret v) s₂
  | .brk => Q .next s₂
  | _ => SCEnd h₀ L c news ps stored m₀ P I oI s₁ s₂
theorem scend_intro {L c : Addr} {news : List (Addr × Obj)} {ps : σ → List (Str × Value)} {stored : List Str} {m₀ m' : Str → Option Value} {P : σ → Prop} {I : Addr} {oI oc' : Obj} {s₁ : Shared} (st : σ) {h' : Heap} {tk : Nat} (F : Fr h₀ L h' m') (N : News h₀ L h' ((I, oI) :: (c, oc') :: news)) (hd : ∃ v, oc'.data = .cell v) (h1 : ∀ p ∈ ps st, m' p.1 = some p.2)
    (hz : ∀ z, (∀ p ∈ ps st, z ≠ p.1) → stored.contains z = false → m' z = m₀ z) (hp : P st) : SCEnd h₀ L c news ps stored m₀ P I oI s₁ { s₁ with heap := h', toks := tk } := ⟨st, h', tk, m', oc', rfl, F, N, hd, h1, hz, hp⟩
theorem forc_intro {l : Addr} {its : List Value} {ns : List Int} {nn : Nat} {m₀ : Str → Option Value} {oc : Obj} {v₀ : Option Value} {news : List (Addr × Obj)} {c : Addr} {body : List Stmt} (ps : σ → List (Str × Value)) (stored : List Str) (P : Nat → σ → Prop) (st₀ : σ)
    (hh : A.handled = none) (hl : (l, listOf its.toArray nn) ∈ news) (hi : IntsAre its ns) (F : Fr h₀ env.locals s.heap m₀) (N : News h₀ env.locals s.heap ((c, oc) :: news)) (hd : oc.data = .cell v₀) (hoc : ∀ p ∈ news, p.1 ≠ c) (hps : ∀ p ∈ ps st₀, m₀ p.1 = some p.2) (hp : P 0 st₀)
    (turn : ∀ (st : σ) (i : Nat) (n : Int) (t : Tok) (oc : Obj) (u : Str → Option Value) (I : Addr) (oI : Obj) h tk, ns[i]? = some n → P i st → oc.data = .cell (some (.int n t)) → (∀ p ∈ (c, oc) :: news, p.1 ≠ I) → Fr h₀ env.locals h (kstB (fun z => if stored.contains z then u z else m₀ z) (ps st)) → News h₀ env.locals h ((I, oI) :: (c, oc) :: news) →
      wpAny (model prog w) A (execs body env) (SCPost h₀ env.locals c news ps stored m₀ (P (i + 1)) I oI { s with heap := h, toks := tk } Q) E { s with heap := h, toks := tk })
    (done : ∀ (st : σ) (u : Str → Option Value) oc h tk, P ns.length st → (∃ v, oc.data = .cell v) → Fr h₀ env.locals h (kstB (fun z => if stored.contains z then u z else m₀ z) (ps st)) → News h₀ env.locals h ((c, oc) :: news) → Q .next { s with heap := h, toks := tk }) :
    ForCAt prog w A h₀ env c body Q E (.ref l) s := by
  refine ⟨l, its, ns, nn, m₀, oc, v₀, news, fun i m => ∃ st, (∀ p ∈ ps st, m p.1 = some p.2) ∧ (∀ z, (∀ p ∈ ps st, z ≠ p.1) → stored.contains z = false → m z = m₀ z) ∧ P i st, rfl, hh, hl, hi, F, N, hd, hoc, ⟨st₀, hps, fun _ _ _ => rfl, hp⟩, ?_, ?_⟩
  · rintro i n t oc m₁ I oI h tk hn ⟨st, h1, h2, hp'⟩ hdc hoI F₁ N₁
    refine wpAny_mono (turn st i n t oc m₁ I oI h tk hn hp' hdc hoI (by rw [kst_offN h1 h2]; exact F₁) N₁) (fun f s₂ p => ?_) fun _ _ e => e
    have up : SCEnd h₀ env.locals c news ps stored m₀ (P (i + 1)) I oI { s with heap := h, toks := tk } s₂ → CEnd h₀ env.locals c news (fun m => ∃ st, (∀ p ∈ ps st, m p.1 = some p.2) ∧ (∀ z, (∀ p ∈ ps st, z ≠ p.1) → stored.contains z = false → m z = m₀ z) ∧ P (i + 1) st) I oI { s with heap := h, toks := tk } s₂ := by
      rintro ⟨st', h', tk', m', oc', e, F', N', hd', h1', h2', hp2⟩
      exact ⟨h', tk', m', oc', e, F', N', hd', st', h1', h2', hp2⟩
    cases f with
    | ret v => exact p
    | brk => exact p
    | next => exact up p
    | cont => exact up p
  · rintro m₁ oc h tk ⟨st, h1, h2, hp'⟩ hdc F₁ N₁
    exact done st m₁ oc h tk hp' hdc (by rw [kst_offN h1 h2]; exact F₁) N₁
end
end Mine
namespace Mine
section
variable {prog : Program} {w : World} {A : Around} {E : Value → Shared → Prop} {s : Shared} {env : Env} {h₀ : Heap} {Q : Flow → Shared → Prop}
theorem For_cellF {m : Str → Option Value} {x : Str} {px pos : Pos} {iter : PySem.Expr} {body : List Stmt} {c : Addr} (_F : Fr h₀ env.locals s.heap m) (hk : env.scope.kind = .function) (hx : env.kindOf x = some .cell) (hc : env.cells.lookup x = some c)
    (h : wpAny (model prog w) A (eval iter env) (ForCAt prog w A h₀ env c body Q E) E s)
    (hs : ∀ x, foldedSetIterable iter env x = pure x := by intro _; rfl)
    (hE : PassesOwn (model prog w) A env E := by passes_own) :
    wpAny (model prog w) A (exec (.For (.Name x px) iter body [] pos) env) Q E s := For_cell h₀ hk hx hc h hs hE
end
end Mine
namespace Mine
theorem idx_start {h₀ h : Heap} {L L' D7 T Dr l2 l : Addr} {o7 oT oR oc p2 p1 : Obj} {news : List (Addr × Obj)} (N : News h₀ L h ((D7, o7) :: (T, oT) :: (Dr, oR) :: (L' + 1, oc) :: (l2, p2) :: (l, p1) :: news))
    (hl : ∀ p ∈ (T, oT) :: (Dr, oR) :: (L' + 1, oc) :: (l2, p2) :: (l, p1) :: news, p.1 < D7) (h1 : L' + 1 ≠ Dr) (hL : l2 < L' ∧ l < L' ∧ AllLt L' news) :
    News h₀ L h ((L' + 1, oc) :: (D7, o7) :: (Dr, oR) :: (l2, p2) :: (l, p1) :: news) ∧ ∀ p ∈ (D7, o7) :: (Dr, oR) :: (l2, p2) :: (l, p1) :: news, p.1 ≠ L' + 1 := by
  have aL := ktn_ltOf hL.2.2
  refine ⟨kst_newsOf N fun p hp => ?_, fun p hp => ?_⟩
  · simp only [List.mem_cons] at hp ⊢
    rcases hp with hp | hp | hp | hp
    · exact .inr (.inr (.inr (.inl hp)))
    · exact .inl hp
    · exact .inr (.inr (.inl hp))
    · exact .inr (.inr (.inr (.inr hp)))
  · simp only [List.mem_cons] at hp
    rcases hp with rfl | rfl | rfl | rfl | hp
    · exact Nat.ne_of_gt (hl (L' + 1, oc) (by simp))
    · exact Ne.symm h1
    · exact Nat.ne_of_lt (Nat.lt_succ_of_lt hL.1)
    · exact Nat.ne_of_lt (Nat.lt_succ_of_lt hL.2.1)
    · exact Nat.ne_of_lt (Nat.lt_succ_of_lt (aL p hp))
noncomputable def otherG (r : Int) (l : List Int) (o : Int) : List Int := if o ≠ r then l ++ [o] else l
noncomputable def mulG (r v o : Int) : Int := v * (r - o)
theorem idxVal_eq (roots g : List Int) (r : Int) : idxVal roots g r = (roots.foldl (otherG r) []).foldl (mulG r) (zatP g r) := rfl
theorem otherG_mem (r : Int) : ∀ (l acc : List Int), (∀ x ∈ l.foldl (otherG r) acc, x ∈ acc ∨ x ∈ l) ∧ (l.foldl (otherG r) acc).length ≤ acc.length + l.length
  | [], acc => ⟨fun x hx => .inl hx, Nat.le_refl _⟩
  | a :: l, acc => by
    have ih := otherG_mem r l (otherG r acc a)
    rw [List.foldl_cons]
    have h1 : ∀ x ∈ otherG r acc a, x ∈ acc ∨ x = a := fun x hx => by
      unfold otherG at hx
      split at hx
      · rcases List.mem_append.mp hx with hx | hx
        · exact .inl hx
        · exact .inr (List.mem_singleton.mp hx)
      · exact .inl hx
    have h2 : (otherG r acc a).length ≤ acc.length + 1 := by unfold otherG; split <;> simp
    refine ⟨fun x hx => ?_, by have := ih.2; rw [List.length_cons]; omega⟩
    rcases ih.1 x hx with h | h
    · rcases h1 x h with h | h
      · exact .inl h
      · exact .inr (by rw [h]; exact List.mem_cons_self)
    · exact .inr (List.mem_cons_of_mem _ h)
theorem take_sum {f : Int → Int} {l : List Int} {i : Nat} {n : Int} (h : l[i]? = some n) : ((l.take (i + 1)).map f).sum = ((l.take i).map f).sum + f n := by
  rw [List.take_add_one, h]
  simp
end Mine
end
section
open PySem PySem.W PyProof.Rows
namespace Mine
section
variable {prog : Program} {w : World} {A : Around} {E : Value → Shared → Prop} {s : Shared} {h₀ : Heap} {env : Env} {x : Str} {body : List Stmt} {Q : Flow → Shared → Prop} {σ : Type}
/-- a for over a ledger list of refs, whose turns may make objects that stay -/
theorem refs_grow {l : Addr} {as : List Addr} {nl : Nat} {m₀ : Str → Option Value} {news : List (Addr × Obj)} (J : Nat → (Str → Option Value) → List (Addr × Obj) → Prop)
    (hh : A.handled = none) (hl : (l, listOf (as.map Value.ref).toArray nl) ∈ news) (hJl : ∀ i m nx, J i m nx → (l, listOf (as.map Value.ref).toArray nl) ∈ nx) (F : Fr h₀ env.locals s.heap m₀) (N : News h₀ env.locals s.heap news) (hj : J 0 m₀ news)
    (turn : ∀ (i : Nat) (r : Addr) (I : Addr) (oI : Obj) m₁ nx h tk, as[i]? = some r → J i m₁ nx → (∀ p ∈ nx, p.1 ≠ I) → Fr h₀ env.locals h (fun y => if y = x then some (.ref r) else m₁ y) → News h₀ env.locals h ((I, oI) :: nx) →
      wpAny (model prog w) A (execs body env) (GPost h₀ env.locals (J (i + 1)) I oI { s with heap := h, toks := tk } Q) E { s with heap := h, toks := tk })
    (done : ∀ m₁ nx h tk, J as.length m₁ nx → Fr h₀ env.locals h m₁ → News h₀ env.locals h nx → Q .next { s with heap := h, toks := tk }) :
    wpAny (model prog w) A (pyIter (.ref l)) (fun it s₂ => LoopAtV prog w A h₀ env x body Q E it s₂) E s := by
  have hls : s.heap.IsList l (as.map Value.ref).toArray := ⟨_, (N _ hl).1, rfl, nl, rfl⟩
  have hlt : l < s.heap.objs.size := Heap.lt_size (N _ hl).1
  have hsz : (as.map Value.ref).toArray.size = as.length := by simp
  refine wpAny_pyIter_list hls ?_
  have W := Walks.list (prog := prog) (w := w) (A := A) hh s.heap.objs.size l (Nat.ne_of_lt hlt) (as.map Value.ref).toArray
  rw [hsz] at W
  refine ⟨s.heap.objs.size, _, _, as.length, _, _, m₀, news, J, rfl, W, ?_, ?_, ?_, ⟨⟨_, Heap.get?_push_size _ rfl, rfl, rfl⟩, hls.push _⟩, F.push _, (fun p hp => ⟨Heap.get?_push_of_some _ (N p hp).1, (N p hp).2⟩), hj, ?_, ?_⟩
  · intro hm
    simp only [List.mem_cons, List.not_mem_nil, or_false] at hm
    rcases hm with hm | hm
    · exact absurd F.ns.lt (hm ▸ Nat.lt_irrefl _)
    · exact (N _ hl).2.1 hm.symm
  · intro b hb
    rw [List.mem_singleton.mp hb]
    exact next_is_new F
  · intro p hp hI
    exact absurd (Heap.lt_size (N p hp).1) ((List.mem_singleton.mp hI) ▸ Nat.lt_irrefl _)
  · rintro i v m₁ nx s₁ own ⟨hh', tk', rfl⟩ hin hv hJ hoff hown hget hall hst F₁ N₁
    have e1 : as[i]? = some as[i] := List.getElem?_eq_getElem hin
    have hv' : v = .ref as[i] := by
      simp only [List.getElem?_toArray, List.getElem?_map, e1, Option.map_some, Option.some.injEq] at hv
      exact hv.symm
    subst hv'
    obtain ⟨oI, hst', hcI, hdI⟩ := hst.1
    have hIn := hall _ List.mem_cons_self (next_is_new F) _ hst'
    have hne : ∀ p ∈ nx, p.1 ≠ s.heap.objs.size := fun p hp e => hoff p hp (List.mem_singleton.mpr e)
    have N₂ : News h₀ env.locals hh' ((s.heap.objs.size, oI) :: nx) := fun p hp => by
      rcases List.mem_cons.mp hp with rfl | hp
      · exact N₁ _ (List.mem_append_left _ hIn)
      · exact N₁ p (List.mem_append_right _ hp)
    have hlo : hh'.get? l = some (listOf (as.map Value.ref).toArray nl) := (N₁ _ (List.mem_append_right _ (hJl i m₁ nx hJ))).1
    refine wpAny_mono (turn i as[i] _ oI m₁ nx hh' tk' e1 hJ hne F₁ N₂) (fun f s₂ p => ?_) fun _ _ e => e
    have fin : GEnd h₀ env.locals (J (i + 1)) s.heap.objs.size oI { s with heap := hh', toks := tk' } s₂ → LoopStepU h₀ env.locals [s.heap.objs.size] own (J (i + 1)) { s with heap := hh', toks := tk' } .next s₂ := by
      rintro ⟨h', tk, m', nx', e, F', N', ho, hm⟩
      refine ⟨rfl, h', tk, m', nx', e, F', fun p hp => ?_, fun p hp hq => ho p hp (List.mem_singleton.mp hq), hm⟩
      rcases List.mem_append.mp hp with hp | hp
      · have hp2 := hget p hp
        change hh'.get? p.1 = some p.2 at hp2
        have hp1 := hown p hp
        simp only [List.mem_cons, List.not_mem_nil, or_false] at hp1
        rcases hp1 with hp1 | hp1
        · rw [hp1, hst'] at hp2
          have e2 : p = (s.heap.objs.size, oI) := Prod.ext hp1 (Option.some.inj hp2).symm
          rw [e2]
          exact N' _ List.mem_cons_self
        · rw [hp1, hlo] at hp2
          have e2 : p = (l, listOf (as.map Value.ref).toArray nl) := Prod.ext hp1 (Option.some.inj hp2).symm
          rw [e2]
          exact N' _ (List.mem_cons_of_mem _ (hJl _ _ _ hm))
      · exact N' p (List.mem_cons_of_mem _ hp)
    cases f with
    | ret v => exact .ret p
    | brk => exact .brk p
    | next => exact .next (fin p)
    | cont => exact .cont (fin p)
  · rintro h' tk m' news' F' N' _ hJ
    exact done m' news' h' tk hJ F' N'
theorem grow_refs {l : Addr} {as : List Addr} {nl : Nat} {m₀ : Str → Option Value} (Led : σ → List (Addr × Obj)) (ps : σ → List (Str × Value)) (stored : List Str) (P : Nat → σ → Prop) (c₀ : σ)
    (hh : A.handled = none) (hl : ∀ c, (l, listOf (as.map Value.ref).toArray nl) ∈ Led c) (F : Fr h₀ env.locals s.heap m₀) (N : News h₀ env.locals s.heap (Led c₀)) (hk : ∀ p ∈ ps c₀, m₀ p.1 = some p.2) (hp : P 0 c₀)
    (turn : ∀ (c : σ) (i : Nat) (r : Addr) (I : Addr) (oI : Obj) (u : Str → Option Value) h tk, as[i]? = some r → P i c → (∀ p ∈ Led c, p.1 ≠ I) → Fr h₀ env.locals h (fun y => if y = x then some (.ref r) else kstB (fun z => if stored.contains z then u z else m₀ z) (ps c) y) → News h₀ env.locals h ((I, oI) :: Led c) →
      wpAny (model prog w) A (execs body env) (SGPost h₀ env.locals Led ps stored x m₀ (P (i + 1)) I oI { s with heap := h, toks := tk } Q) E { s with heap := h, toks := tk })
    (done : ∀ (c : σ) (u : Str → Option Value) h tk, P as.length c → Fr h₀ env.locals h (fun y => if y = x then u y else kstB (fun z => if stored.contains z then u z else m₀ z) (ps c) y) → News h₀ env.locals h (Led c) → Q .next { s with heap := h, toks := tk }) :
    wpAny (model prog w) A (pyIter (.ref l)) (fun it s₂ => LoopAtV prog w A h₀ env x body Q E it s₂) E s := by
  refine refs_grow (fun i m nx => ∃ c, nx = Led c ∧ (∀ p ∈ ps c, m p.1 = some p.2) ∧ (∀ z, z ≠ x → (∀ p ∈ ps c, z ≠ p.1) → stored.contains z = false → m z = m₀ z) ∧ P i c) hh (hl c₀) (fun i m nx ⟨c, e, _⟩ => by rw [e]; exact hl c) F N ⟨c₀, rfl, hk, fun _ _ _ _ => rfl, hp⟩ ?_ ?_
  · rintro i r I oI m₁ nx h tk hi ⟨c, rfl, h1, h2, hp'⟩ ho F₁ N₁
    refine wpAny_mono (turn c i r I oI m₁ h tk hi hp' ho (kst_fr h1 h2 F₁) N₁) (fun f s₂ p => ?_) fun _ _ e => e
    have up : SGEnd h₀ env.locals Led ps stored x m₀ (P (i + 1)) I oI { s with heap := h, toks := tk } s₂ → GEnd h₀ env.locals (fun m nx => ∃ c, nx = Led c ∧ (∀ p ∈ ps c, m p.1 = some p.2) ∧ (∀ z, z ≠ x → (∀ p ∈ ps c, z ≠ p.1) → stored.contains z = false → m z = m₀ z) ∧ P (i + 1) c) I oI { s with heap := h, toks := tk } s₂ := by
      rintro ⟨c', h', tk', m', e, F', N', ho', h1', h2', hp2⟩
      exact ⟨h', tk', m', Led c', e, F', N', ho', c', rfl, h1', h2', hp2⟩
    cases f with
    | ret v => exact p
    | brk => exact p
    | next => exact up p
    | cont => exact up p
  · rintro m₁ nx h tk ⟨c, rfl, h1, h2, hp'⟩ F₁ N₁
    exact done c m₁ h tk hp' (kst_frOut h1 h2 F₁) N₁
end
section
variable {prog : Program} {w : World} {A : Around} {h₀ : Heap} {L : Addr} {m : Str → Option Value} {env : Env} {elt : PySem.Expr} {x : Str} {scope : Scope} {cl : List (Str × Addr)} {s : Shared} {S : List (Addr × Obj) → Prop} {Fin : List Value → List (Addr × Obj) → Prop} {σ : Type}
/-- a comprehension over a range whose elements are ints and change the ledger -/
theorem comp_led {n : Nat} {a : Int} (Led : σ → List (Addr × Obj)) (g : Nat → Int) (P : Nat → σ → Prop) (c₀ : σ) (hp : P 0 c₀)
    (turn : ∀ (c : σ) i t I oI C oC D m₂ ys h tk (E' : Value → Shared → Prop), i < n → P i c → LCg.NsObj oC m₂ → m₂ x = some (.int (a + (i : Int)) t) → Fr h₀ L h m → News h₀ L h ((I, oI) :: (C, oC) :: (D, LCg.lst ys) :: Led c) → LCg.Off3 I C D (Led c) → ((@Ne Nat I C) ∧ (@Ne Nat I D) ∧ (@Ne Nat C D)) →
      wpAny (model prog w) A (eval elt (compEnvC scope cl C env)) (LCg.CompEnd h₀ L m { s with heap := h, toks := tk } I oI C oC D (LCg.lst ys) S (fun y news' => ∃ c' t', y = .int (g i) t' ∧ news' = Led c' ∧ P (i + 1) c')) E' { s with heap := h, toks := tk })
    (fin : ∀ ys c, IntsAre ys ((List.range n).map g) → P n c → Fin ys (Led c)) : LCg.CompRest prog w A h₀ L m env elt x scope cl s S (fun i v => ∃ t, v = .int (a + (i : Int)) t) Fin n 0 [] (Led c₀) := by
  have key : ∀ (j i : Nat) (ys : List Value) (c : σ), i + j = n → IntsAre ys ((List.range i).map g) → P i c → LCg.CompRest prog w A h₀ L m env elt x scope cl s S (fun i v => ∃ t, v = .int (a + (i : Int)) t) Fin j i ys (Led c) := by
    intro j
    induction j with
    | zero =>
      intro i ys c hi hy hp
      obtain rfl : i = n := by omega
      exact LCg.CompRest.zero (fin ys c hy hp)
    | succ j ih =>
      intro i ys c hi hy hp
      refine LCg.CompRest.succ ?_
      rintro v I oI C oC D m₂ h tk E' ⟨t, rfl⟩ hC hx F N off ne
      refine wpAny_mono (turn c i t I oI C oC D m₂ ys h tk E' (by omega) hp hC hx F N off ne) (fun y s₂ hq => ?_) fun _ _ e => e
      obtain ⟨h', tk', nw, e, F', N', off', hS', c', t', rfl, rfl, hp'⟩ := hq
      refine ⟨h', tk', Led c', e, F', N', off', hS', ih (i + 1) _ c' (by omega) ?_ hp'⟩
      rw [List.range_succ, List.map_append]
      exact IntsAre.append hy (.cons _ _ .nil)
  exact key n 0 [] c₀ (by omega) .nil hp
end
end Mine
namespace Mine
theorem law_off3 {D D1 C2 C1 P : Addr} {o o2 o1 : Obj} (h : D < P ∧ D1 < P ∧ C2 < P ∧ C1 < P) : ∀ p ∈ [(D, o), (C2, o2), (C1, o1)], p.1 ≠ P := fun p hp => by
  simp only [List.mem_cons, List.not_mem_nil, or_false] at hp
  rcases hp with rfl | rfl | rfl
  · exact Nat.ne_of_lt h.1
  · exact Nat.ne_of_lt h.2.2.1
  · exact Nat.ne_of_lt h.2.2.2
noncomputable abbrev FSt := Addr × List Value × List Int × Nat
end Mine
namespace Mine
theorem law_start {h₀ h : Heap} {L P D D1 C2 C1 : Addr} {oP o o1' o2 o1 : Obj} (N : News h₀ L h [(P, oP), (D, o), (D1, o1'), (C2, o2), (C1, o1)]) (hl : D < P ∧ D1 < P ∧ C2 < P ∧ C1 < P) :
    News h₀ L h ((P, oP) :: [(D, o), (C2, o2), (C1, o1)]) ∧ ∀ p ∈ [(D, o), (C2, o2), (C1, o1)], p.1 ≠ P := by
  refine ⟨kst_newsOf N fun p hp => ?_, law_off3 hl⟩
  simp only [List.mem_cons, List.not_mem_nil, or_false] at hp ⊢
  rcases hp with hp | hp | hp | hp
  · exact .inl hp
  · exact .inr (.inl hp)
  · exact .inr (.inr (.inr (.inl hp)))
  · exact .inr (.inr (.inr (.inr hp)))
end Mine
namespace Mine
theorem ra_off {P Fd f : Addr} {oP oF : Obj} {M : List (Addr × Obj)} (h : P < f ∧ Fd < f ∧ AllLt f M) : ∀ p ∈ (P, oP) :: (Fd, oF) :: M, p.1 ≠ f := fun p hp => by
  rcases List.mem_cons.mp hp with rfl | hp
  · exact Nat.ne_of_lt h.1
  · rcases List.mem_cons.mp hp with rfl | hp
    · exact Nat.ne_of_lt h.2.1
    · exact lt_ne h.2.2 p hp
noncomputable abbrev LedF (R : List (Addr × Obj)) (c : FSt) : List (Addr × Obj) := (c.1, listOf c.2.1.toArray c.2.2.2) :: R
noncomputable abbrev PsF (c : FSt) : List (Str × Value) := [(Str.ofString "f", .ref c.1)]
structure FInv (R : List (Addr × Obj)) (fs : List Int) (c : FSt) : Prop where
  eq : c.2.2.1 = fs
  isi : IntsAre c.2.1 c.2.2.1
  offs : ∀ p ∈ R, p.1 ≠ c.1
theorem part_facts {as : List Addr} {cs : List Cel} {ps : List (List Int)} {i : Nat} {r : Addr} (hl : cs.length = as.length) (hc : CelsOk cs) (hr : rowsOf cs = ps) (h : as[i]? = some r) :
    ∃ its xs nn, (r, listOf its.toArray nn) ∈ MatL as cs ∧ IntsAre its xs ∧ xs ∈ ps ∧ (ps.take (i + 1)).foldl zmulP [1] = zmulP ((ps.take i).foldl zmulP [1]) xs := by
  have hi : i < as.length := (List.getElem?_eq_some_iff.mp h).1
  have e2 : cs[i]? = some cs[i] := List.getElem?_eq_getElem (by omega)
  have hm : cs[i] ∈ cs := List.mem_of_getElem? e2
  refine ⟨cs[i].1, cs[i].2.1, cs[i].2.2, matL_mem h e2, hc _ hm, by rw [← hr]; exact List.mem_map_of_mem hm, ?_⟩
  have e3 : ps[i]? = some cs[i].2.1 := by rw [← hr]; unfold rowsOf; rw [List.getElem?_map, e2]; rfl
  rw [List.take_add_one, e3, List.foldl_append]; rfl
theorem fled_off {I f f0 : Addr} {of o0 : Obj} {R : List (Addr × Obj)} (hI : ∀ p ∈ (f0, o0) :: R, p.1 ≠ I) (h : I ≠ f) : ∀ p ∈ (f, of) :: R, p.1 ≠ I := fun p hp => by
  rcases List.mem_cons.mp hp with rfl | hp
  · exact Ne.symm h
  · exact hI p (List.mem_cons_of_mem _ hp)
end Mine
namespace Mine
theorem news_tl {h₀ h : Heap} {L : Addr} {p : Addr × Obj} {R : List (Addr × Obj)} (N : News h₀ L h (p :: R)) : News h₀ L h R := fun q hq => N q (List.mem_cons_of_mem _ hq)
end Mine
namespace Mine
section
variable {prog : Program} {w : World} {A : Around} {E : Value → Shared → Prop} {s : Shared} {h₀ : Heap} {env : Env} {x : Str} {body : List Stmt} {Q : Flow → Shared → Prop}
theorem f_loop {l : Addr} {as : List Addr} {nl : Nat} {m₀ : Str → Option Value} (fs : Nat → List Int) (R : List (Addr × Obj)) (c₀ : FSt)
    (hh : A.handled = none) (hl : (l, listOf (as.map Value.ref).toArray nl) ∈ R) (F : Fr h₀ env.locals s.heap m₀) (N : News h₀ env.locals s.heap (LedF R c₀)) (hk : ∀ p ∈ PsF c₀, m₀ p.1 = some p.2) (hp : FInv R (fs 0) c₀)
    (turn : ∀ (c : FSt) (i : Nat) (r : Addr) (I : Addr) (oI : Obj) (u : Str → Option Value) h tk, as[i]? = some r → FInv R (fs i) c → (∀ p ∈ LedF R c, p.1 ≠ I) → Fr h₀ env.locals h (fun y => if y = x then some (.ref r) else kstB (fun z => if ([] : List Str).contains z then u z else m₀ z) (PsF c) y) → News h₀ env.locals h ((I, oI) :: LedF R c) →
      wpAny (model prog w) A (execs body env) (SGPost h₀ env.locals (LedF R) PsF [] x m₀ (FInv R (fs (i + 1))) I oI { s with heap := h, toks := tk } Q) E { s with heap := h, toks := tk })
    (done : ∀ (c : FSt) (u : Str → Option Value) h tk, FInv R (fs as.length) c → Fr h₀ env.locals h (fun y => if y = x then u y else kstB (fun z => if ([] : List Str).contains z then u z else m₀ z) (PsF c) y) → News h₀ env.locals h (LedF R c) → Q .next { s with heap := h, toks := tk }) :
    wpAny (model prog w) A (pyIter (.ref l)) (fun it s₂ => LoopAtV prog w A h₀ env x body Q E it s₂) E s :=
  grow_refs (LedF R) PsF [] (fun i c => FInv R (fs i) c) c₀ hh (fun _ => List.mem_cons_of_mem _ hl) F N hk hp turn done
end
end Mine
namespace Mine
noncomputable abbrev LedG (P Sl : Addr) (np : Nat) (rest : List (Addr × Obj)) (c : Nat × Tok) : List (Addr × Obj) := (P, listOf #[.ref Sl, .int ((c.1 : Nat) : Int) c.2] np) :: rest
theorem news_swap {h₀ h : Heap} {L : Addr} {a b : Addr × Obj} {R : List (Addr × Obj)} (N : News h₀ L h (a :: b :: R)) : News h₀ L h (b :: a :: R) := fun q hq => by
  rcases List.mem_cons.mp hq with rfl | hq
  · exact N _ (List.mem_cons_of_mem _ List.mem_cons_self)
  · rcases List.mem_cons.mp hq with rfl | hq
    · exact N _ List.mem_cons_self
    · exact N _ (List.mem_cons_of_mem _ (List.mem_cons_of_mem _ hq))
theorem g_rest {P Fd f : Addr} {oP oF oFd : Obj} {as : List Addr} {cs : List Cel} {M : List (Addr × Obj)} (ho : ∀ p ∈ (P, oP) :: (Fd, oFd) :: (MatL as cs ++ M), p.1 ≠ f) (hPF : P ≠ Fd) (hP : ¬ P ∈ as) (hl : cs.length = as.length) (hM : ∀ p ∈ M, p.1 ≠ P) :
    ∀ p ∈ (f, oF) :: (Fd, oFd) :: (MatL as cs ++ M), p.1 ≠ P := fun p hp => by
  rcases List.mem_cons.mp hp with rfl | hp
  · exact fun e => ho _ List.mem_cons_self e.symm
  · rcases List.mem_cons.mp hp with rfl | hp
    · exact hPF.symm
    · rcases List.mem_append.mp hp with hp | hp
      · exact fun e => hP (by rw [← matL_fst hl, ← e]; exact List.mem_map_of_mem hp)
      · exact hM p hp
theorem g_off {P I C D : Addr} {oP oI oC oD : Obj} {rest : List (Addr × Obj)} (h : LCg.Off3 I C D ((P, oP) :: rest)) (hr : ∀ p ∈ rest, p.1 ≠ P) : ∀ p ∈ (I, oI) :: (C, oC) :: (D, oD) :: rest, p.1 ≠ P := fun p hp => by
  rcases List.mem_cons.mp hp with rfl | hp
  · exact h.1.1.symm
  · rcases List.mem_cons.mp hp with rfl | hp
    · exact h.1.2.1.symm
    · rcases List.mem_cons.mp hp with rfl | hp
      · exact h.1.2.2.symm
      · exact hr p hp
end Mine
end
section
namespace Mine
theorem ztrimP_last {xs : List Int} (h : xs.getLastD 0 ≠ 0) : ztrimP xs = xs := by
  rcases List.eq_nil_or_concat xs with rfl | ⟨ys, y, rfl⟩
  · exact absurd rfl h
  · rw [List.concat_eq_append] at h ⊢
    rw [List.getLastD_eq_getLast?, List.getLast?_append] at h
    simp at h
    exact ztrimP_snoc h
theorem ztrimP_map {xs : List Int} {c : Int} (hc : c ≠ 0) : ztrimP (xs.map fun x => x * c) = (ztrimP xs).map fun x => x * c := by
  unfold ztrimP
  rw [← List.map_reverse, List.dropWhile_map, List.map_reverse]
  congr 2
  congr 1
  funext x
  simp [Int.mul_eq_zero, hc]
theorem subL_map (c : Int) : ∀ xs ys : List Int, subL (xs.map fun x => x * c) (ys.map fun x => x * c) = (subL xs ys).map fun x => x * c
  | [], ys => by
    simp only [List.map_nil, subL, List.map_map]
    refine List.map_congr_left fun y _ => ?_
    simp [Int.neg_mul]
  | x :: xs, [] => by simp [subL]
  | x :: xs, y :: ys => by
    simp only [List.map_cons, subL, subL_map c xs ys, Int.sub_mul]
/-- one turn, the last number dropped, not trimmed -/
noncomputable def stepU (b : List Int) (r : List Int) : List Int :=
  (subL (r.map fun x => x * b.getLastD 0) (List.replicate (r.length - b.length) 0 ++ b.map fun x => x * r.getLastD 0)).dropLast
noncomputable def premU (b : List Int) : Nat → List Int → List Int
  | 0, r => r
  | n + 1, r => premU b n (stepU b r)
theorem getLastD_map (c : Int) (r : List Int) : (r.map fun x => x * c).getLastD 0 = r.getLastD 0 * c := by
  rw [List.getLastD_eq_getLast?, List.getLastD_eq_getLast?, List.getLast?_map]
  cases r.getLast? <;> simp
theorem stepU_map (b r : List Int) (c : Int) : stepU b (r.map fun x => x * c) = (stepU b r).map fun x => x * c := by
  unfold stepU
  rw [List.length_map, getLastD_map, List.map_dropLast, ← subL_map]
  congr 2
  · rw [List.map_map, List.map_map]
    refine List.map_congr_left fun x _ => ?_
    simp only [Function.comp, Int.mul_right_comm]
  · rw [List.map_append, List.map_replicate, Int.zero_mul, List.map_map]
    congr 1
    refine List.map_congr_left fun x _ => ?_
    simp only [Function.comp, Int.mul_assoc]
theorem premU_map (b : List Int) (c : Int) : ∀ (n : Nat) (r : List Int), premU b n (r.map fun x => x * c) = (premU b n r).map fun x => x * c
  | 0, _ => rfl
  | n + 1, r => by
    show premU b n (stepU b _) = _
    rw [stepU_map, premU_map b c n]; rfl
theorem stepU_length {b r : List Int} (h : b.length ≤ r.length) : (stepU b r).length = r.length - 1 := by
  unfold stepU
  rw [List.length_dropLast, subL_length, List.length_append, List.length_replicate, List.length_map, List.length_map]
  omega
theorem subL_zero : ∀ (xs : List Int) (k : Nat), k ≤ xs.length → subL xs (List.replicate k 0) = xs
  | [], k, h => by
    have : k = 0 := by simpa using h
    subst this; rfl
  | x :: xs, 0, _ => rfl
  | x :: xs, k + 1, h => by
    show (x - 0) :: subL xs (List.replicate k 0) = _
    rw [subL_zero xs k (by simpa using h), Int.sub_zero]
theorem stepU_zero {b r : List Int} (h : b.length ≤ r.length + 1) : stepU b (r ++ [0]) = r.map fun x => x * b.getLastD 0 := by
  unfold stepU
  have e : (r ++ [0]).getLastD 0 = 0 := by simp [List.getLastD_eq_getLast?]
  have e2 : (b.map fun x => x * (0 : Int)) = List.replicate b.length 0 := by
    rw [List.eq_replicate_iff]
    exact ⟨by simp, by simp⟩
  rw [e, e2, List.replicate_append_replicate, subL_zero _ _ (by simp; omega), List.map_append, List.map_singleton, List.dropLast_concat]
theorem ztrimP_drop {xs : List Int} (h : xs.getLastD 0 = 0) (h0 : 0 < xs.length) : ztrimP xs = ztrimP xs.dropLast := by
  rcases List.eq_nil_or_concat xs with rfl | ⟨ys, y, rfl⟩
  · simp at h0
  · rw [List.concat_eq_append] at h ⊢
    rw [List.getLastD_eq_getLast?, List.getLast?_append] at h
    simp at h
    rw [h, ztrimP_snoc0, List.dropLast_concat]
theorem zscaleP_ne {xs : List Int} {k : Int} (h : k ≠ 0) : zscaleP xs k = xs.map fun x => x * k := by
  unfold zscaleP; rw [if_pos h]
theorem psRest_step {b r : List Int} (hb : 0 < b.length) (hl : b.length ≤ r.length) (hF : b.getLastD 0 ≠ 0) (hr : r.getLastD 0 ≠ 0) : psRest b (b.getLastD 0) r = ztrimP (stepU b r) := by
  unfold psRest zsubP stepU
  rw [zscaleP_ne hF, zscaleP_ne hr]
  unfold zraiseP
  rw [if_pos (by simpa using hb)]
  have hlen : (subL (r.map fun x => x * b.getLastD 0) (List.replicate (r.length - b.length) 0 ++ b.map fun x => x * r.getLastD 0)).length = r.length := by
    rw [subL_length, List.length_append, List.length_replicate, List.length_map, List.length_map]; omega
  refine ztrimP_drop ?_ (by omega)
  rw [getLastD_getD (by omega), hlen, subL_getD]
  have e1 : (r.map fun x => x * b.getLastD 0).getD (r.length - 1) 0 = r.getLastD 0 * b.getLastD 0 := by
    rw [← getLastD_map, getLastD_getD (xs := r.map _) (by rw [List.length_map]; omega), List.length_map]
  have e2 : (List.replicate (r.length - b.length) 0 ++ b.map fun x => x * r.getLastD 0).getD (r.length - 1) 0 = b.getLastD 0 * r.getLastD 0 := by
    rw [List.getD_eq_getElem?_getD, List.getElem?_append_right (by rw [List.length_replicate]; omega), List.length_replicate, ← List.getD_eq_getElem?_getD, show r.length - 1 - (r.length - b.length) = b.length - 1 by omega, ← getLastD_map, getLastD_getD (xs := b.map _) (by rw [List.length_map]; omega), List.length_map]
  rw [e1, e2, Int.mul_comm, Int.sub_self]
theorem concat_of_last {xs : List Int} (h0 : 0 < xs.length) : xs = xs.dropLast ++ [xs.getLastD 0] := by
  rcases List.eq_nil_or_concat xs with rfl | ⟨ys, y, rfl⟩
  · simp at h0
  · rw [List.concat_eq_append, List.dropLast_concat]
    simp [List.getLastD_eq_getLast?]
theorem ps_prem {b : List Int} (hb : 0 < b.length) (hF : b.getLastD 0 ≠ 0) : ∀ (n e N : Nat) (r fnd : List Int), r.length = b.length - 1 + n → r.length + 1 ≤ N →
    zscaleP (psLoop b N (ztrimP r) fnd ((n + e : Nat) : Int)).1 (b.getLastD 0 ^ (psLoop b N (ztrimP r) fnd ((n + e : Nat) : Int)).2.2.toNat) = ztrimP ((premU b n r).map fun x => x * b.getLastD 0 ^ e) := by
  have hp : ∀ k : Nat, b.getLastD 0 ^ k ≠ 0 := fun k => Int.pow_ne_zero hF
  intro n
  induction n with
  | zero =>
    intro e N r fnd hr hN
    have hl := ztrimP_length_le r
    cases N with
    | zero => omega
    | succ N =>
      rw [psLoop, if_neg (by omega)]
      simp only [Nat.zero_add, Int.toNat_natCast]
      rw [zscaleP_ne (hp e), premU, ztrimP_map (hp e)]
  | succ n ih =>
    intro e N r fnd hr hN
    by_cases h0 : r.getLastD 0 = 0
    · have hr2 := concat_of_last (xs := r) (by omega)
      rw [h0] at hr2
      have hd : r.dropLast.length = b.length - 1 + n := by rw [List.length_dropLast]; omega
      have := ih (e + 1) N r.dropLast fnd hd (by omega)
      rw [ztrimP_drop h0 (by omega), show n + 1 + e = n + (e + 1) by omega, this]
      congr 1
      show _ = (premU b n (stepU b r)).map _
      conv => rhs; rw [hr2]
      rw [stepU_zero (by omega), premU_map, List.map_map]
      refine List.map_congr_left fun x _ => ?_
      simp only [Function.comp, Int.pow_succ, Int.mul_assoc]
      rw [Int.mul_comm (b.getLastD 0 ^ e)]
    · rw [ztrimP_last h0]
      cases N with
      | zero => omega
      | succ N =>
        rw [psLoop, if_pos (by omega), psRest_step hb (by omega) hF h0, show ((n + 1 + e : Nat) : Int) - 1 = ((n + e : Nat) : Int) by omega]
        exact ih e N (stepU b r) _ (by rw [stepU_length (by omega)]; omega) (by rw [stepU_length (by omega)]; omega)
theorem premP_eq {xs zs : List Int} (hz : 0 < zs.length) (hF : zs.getLastD 0 ≠ 0) (hx : xs.getLastD 0 ≠ 0) (h : zs.length ≤ xs.length) : premP xs zs = ztrimP (premU zs (xs.length + 1 - zs.length) xs) := by
  have hm : manyP xs zs = ((xs.length + 1 - zs.length + 0 : Nat) : Int) := by
    unfold manyP; rw [if_pos (by omega)]; omega
  have key := ps_prem hz hF (xs.length + 1 - zs.length) 0 (xs.length + 1) xs [] (by omega) (Nat.le_refl _)
  rw [ztrimP_last hx] at key
  unfold premP psR
  rw [hm, key]
  simp
end Mine
end
section
namespace Mine
noncomputable def LBd (k : Nat) (xs : List Int) : Prop := ∀ x ∈ xs, Bd k x
theorem LBd.mono {j k : Nat} {xs : List Int} (h : LBd j xs) (hk : j ≤ k) : LBd k xs := fun x hx => (h x hx).mono hk
theorem Bd.one {k : Nat} (h : 1 ≤ k) : Bd k 1 := by
  unfold Bd
  exact Nat.one_lt_two_pow (by omega)
theorem Bd.pow {k : Nat} {x : Int} (h : Bd k x) : ∀ n : Nat, Bd (k * n + 1) (x ^ n)
  | 0 => by rw [Int.pow_zero]; exact Bd.one (by omega)
  | n + 1 => by
    rw [Int.pow_succ]
    exact ((Bd.pow h n).mul h).mono (by rw [Nat.mul_succ]; omega)
theorem Bd.powLe {k : Nat} {x : Int} (h : Bd k x) {n m : Nat} (hn : n ≤ m) : Bd (k * m + 1) (x ^ n) :=
  (h.pow n).mono (by have := Nat.mul_le_mul_left k hn; omega)
theorem subL_bd {k : Nat} : ∀ {xs ys : List Int}, LBd k xs → LBd k ys → LBd (k + 1) (subL xs ys)
  | [], ys, _, hy => by
    intro x hx
    obtain ⟨y, hm, rfl⟩ := List.mem_map.mp hx
    exact ((hy y hm).neg).mono (by omega)
  | x :: xs, [], hx, _ => by
    intro z hz
    exact (hx z hz).mono (by omega)
  | x :: xs, y :: ys, hx, hy => by
    intro z hz
    rcases List.mem_cons.mp hz with rfl | hz
    · exact (hx x List.mem_cons_self).sub (hy y List.mem_cons_self)
    · exact subL_bd (fun a ha => hx a (List.mem_cons_of_mem _ ha)) (fun a ha => hy a (List.mem_cons_of_mem _ ha)) z hz
theorem ztrimP_bd {k : Nat} {xs : List Int} (h : LBd k xs) : LBd k (ztrimP xs) := fun x hx => h x (ztrimP_mem hx)
theorem zscaleP_bd {j k : Nat} {xs : List Int} {c : Int} (h : LBd j xs) (hc : Bd k c) : LBd (j + k) (zscaleP xs c) := by
  intro x hx
  unfold zscaleP at hx
  split at hx
  · obtain ⟨y, hm, rfl⟩ := List.mem_map.mp hx
    exact (h y hm).mul hc
  · cases hx
theorem zraiseP_bd {k n : Nat} {xs : List Int} (h : LBd k xs) : LBd k (zraiseP xs n) := by
  intro x hx
  unfold zraiseP at hx
  split at hx
  · rcases List.mem_append.mp hx with hx | hx
    · rw [(List.mem_replicate.mp hx).2]; exact Bd.zero
    · exact h x hx
  · cases hx
theorem lastD_bd {k : Nat} {xs : List Int} (h : LBd k xs) : Bd k (xs.getLastD 0) := by
  cases xs with
  | nil => exact Bd.zero
  | cons x xs => exact h _ (getLastD_mem (by simp))
theorem psRest_bd {ka kb : Nat} {b rest : List Int} (hb : LBd kb b) (hr : LBd ka rest) : LBd (ka + kb + 1) (psRest b (b.getLastD 0) rest) := by
  unfold psRest zsubP
  refine ztrimP_bd (subL_bd (zscaleP_bd hr (lastD_bd hb)) (zraiseP_bd ?_))
  exact (zscaleP_bd hb (lastD_bd hr)).mono (by omega)
theorem psFound_bd {ka kb : Nat} {b rest found : List Int} (hb : LBd kb b) (hr : LBd ka rest) (hf : LBd ka found) : LBd (ka + kb + 1) (psFound b (b.getLastD 0) rest found) := by
  unfold psFound zsubP
  refine ztrimP_bd (subL_bd (zscaleP_bd hf (lastD_bd hb)) (zraiseP_bd ?_))
  intro x hx
  rw [List.mem_singleton] at hx
  rw [hx]
  exact ((lastD_bd hr).neg).mono (by omega)
theorem psOk_bd {kb : Nat} {b : List Int} (hb : LBd kb b) : ∀ (N ka : Nat) (rest found : List Int), LBd ka rest → LBd ka found → ka + N * (kb + 1) ≤ 100000 → psOk b N rest found
  | 0, _, _, _, _, _, _ => trivial
  | N + 1, ka, rest, found, hr, hf, hk => by
    rw [Nat.succ_mul] at hk
    exact ⟨fun x hx => (hr x hx).sm (by omega), fun x hx => (hf x hx).sm (by omega), fun _ => psOk_bd hb N (ka + kb + 1) _ _ (psRest_bd hb hr) (psFound_bd hb hr hf) (by omega)⟩
theorem psLoop_bd {kb : Nat} {b : List Int} (hb : LBd kb b) : ∀ (N ka : Nat) (rest found : List Int) (left : Int), LBd ka rest → LBd ka found → LBd (ka + N * (kb + 1)) (psLoop b N rest found left).1
  | 0, _, rest, _, _, hr, _ => hr.mono (by omega)
  | N + 1, ka, rest, found, left, hr, hf => by
    rw [psLoop]
    split
    · refine (psLoop_bd hb N (ka + kb + 1) _ _ _ (psRest_bd hb hr) (psFound_bd hb hr hf)).mono ?_
      rw [Nat.succ_mul]; omega
    · exact hr.mono (by omega)
theorem psLoop_left {b : List Int} (hb : 0 < b.length) : ∀ (N : Nat) (rest found : List Int) (left : Int), 0 ≤ left → (rest.length : Int) + 1 - b.length ≤ left → 0 ≤ (psLoop b N rest found left).2.2 ∧ (psLoop b N rest found left).2.2 ≤ left
  | 0, _, _, _, h, _ => ⟨h, Int.le_refl _⟩
  | N + 1, rest, found, left, h, h2 => by
    rw [psLoop]
    split
    · rename_i hl
      have hlt := psRest_length hb hl
      have := psLoop_left hb N (psRest b (b.getLastD 0) rest) (psFound b (b.getLastD 0) rest found) (left - 1) (by omega) (by omega)
      omega
    · exact ⟨h, Int.le_refl _⟩
theorem prem_ok {ka kb : Nat} {xs zs : List Int} (hz : 0 < zs.length) (hl : zs.length ≤ xs.length) (h5 : xs.length ≤ 5) (ha : LBd ka xs) (hb : LBd kb zs) (hk : ka + 11 * kb + 7 ≤ 100000) :
    PremOk xs zs ∧ LBd (ka + 11 * kb + 7) (premP xs zs) := by
  have hm : manyP xs zs = (xs.length : Int) - zs.length + 1 := by
    unfold manyP; rw [if_pos (by omega)]
  have hle := psLoop_left hz (xs.length + 1) xs [] (manyP xs zs) (by omega) (by omega)
  have hN : (xs.length + 1) * (kb + 1) ≤ 6 * (kb + 1) := Nat.mul_le_mul_right _ (by omega)
  have h1 : LBd (ka + 6 * (kb + 1)) (psR xs zs).1 := (psLoop_bd hb (xs.length + 1) ka xs [] (manyP xs zs) ha (fun _ h => nomatch h)).mono (by omega)
  have h2 : Bd (kb * 5 + 1) (zs.getLastD 0 ^ (psR xs zs).2.2.toNat) := (lastD_bd hb).powLe (by unfold psR; omega)
  have h3 : LBd (ka + 11 * kb + 7) (premP xs zs) := (zscaleP_bd h1 h2).mono (by omega)
  exact ⟨⟨psOk_bd hb _ ka _ _ ha (fun _ h => nomatch h) (by omega), by unfold psR; omega, h2.sm (by omega), fun x hx => (hb x hx).sm (by omega), fun x hx => (h3 x hx).sm (by omega)⟩, h3⟩
theorem rrB_bd {ka kb : Nat} {a b : List Int} {g h : Int} (hz : 0 < b.length) (hl : b.length ≤ a.length) (h5 : a.length ≤ 5) (ha : LBd ka a) (hb : LBd kb b) (hk : ka + 11 * kb + 7 ≤ 100000) : LBd (ka + 11 * kb + 7) (rrB a b g h) := by
  intro x hx
  obtain ⟨y, hy, rfl⟩ := List.mem_map.mp hx
  exact Bd.fdiv ((prem_ok hz hl h5 ha hb hk).2 y hy)
theorem rr_turn {ka kb kg kh : Nat} {a b : List Int} {g h : Int} (hz : 0 < b.length) (hl : b.length ≤ a.length) (h5 : a.length ≤ 5) (ha : LBd ka a) (hb : LBd kb b) (hg : Bd kg g) (hh : Bd kh h) (g0 : g ≠ 0) (h0 : h ≠ 0)
    (hk : ka + 11 * kb + 7 ≤ 100000) (hk2 : kg + (kh * (a.length - b.length) + 1) ≤ 8000) (hk3 : kh ≤ 8000) : RrTurn a b g h := by
  refine ⟨hl, by omega, (prem_ok hz hl h5 ha hb hk).1, hg.sm (by omega), hh.sm (by omega), (hh.pow _).sm (by omega), ⟨?_, (hg.mul (hh.pow _)).mono hk2⟩, (lastD_bd hb).sm (by omega), fun hgap => ⟨Int.pow_ne_zero h0, (hh.powLe (m := a.length - b.length) (by omega)).mono (by omega)⟩⟩
  exact Int.mul_ne_zero g0 (Int.pow_ne_zero h0)
theorem sign_sm {s : Int} (h : s = 1 ∨ s = -1) : Sm s := by
  rcases h with rfl | rfl
  · exact Bd.one (by decide)
  · exact (Bd.one (by decide)).neg
theorem sign_mul {s x : Int} (h : s = 1 ∨ s = -1) (hx : Sm x) : Sm (s * x) := by
  rcases h with rfl | rfl
  · rw [Int.one_mul]; exact hx
  · rw [Int.neg_mul, Int.one_mul]; exact Bd.neg hx
/-- the loop's value is V, and all it meets stays small -/
noncomputable def RR (n : Nat) (a b : List Int) (s g h V : Int) : Prop := rrLoop n a b s g h = V ∧ rrOk n a b s g h ∧ Sm V
theorem RR_nil {n : Nat} {a : List Int} {s g h V : Int} (hV : V = 0) : RR (n + 1) a [] s g h V := by
  subst hV
  refine ⟨?_, ⟨fun h => absurd h (by decide), fun _ h => absurd rfl h⟩, Bd.zero⟩
  rw [rrLoop, if_neg (by decide)]; rfl
theorem RR_one {n : Nat} {a : List Int} {c s g h V : Int} {kc kh : Nat} (hs : s = 1 ∨ s = -1) (h1 : 1 < a.length) (h5 : a.length ≤ 5) (hc : Bd kc c) (hh : Bd kh h) (h0 : h ≠ 0) (hk : kc ≤ 20000) (hk3 : kh ≤ 8000) (hk2 : kh * (a.length - 2) + 1 ≤ 8000)
    (hV : s * (c ^ (a.length - 1)).fdiv (h ^ (a.length - 2)) = V) : RR (n + 1) a [c] s g h V := by
  have hv : Sm ((c ^ (a.length - 1)).fdiv (h ^ (a.length - 2))) := (Bd.fdiv (hc.powLe (m := 4) (by omega))).sm (by omega)
  refine ⟨?_, ⟨fun h => absurd h (by simp), fun _ _ => ⟨by omega, by omega, hc.sm (by omega), hh.sm (by omega), sign_sm hs, fun _ => ⟨Int.pow_ne_zero h0, (hh.powLe (m := a.length - 2) (by omega)).mono hk2⟩, ?_⟩⟩, ?_⟩
  · rw [rrLoop, if_neg (by simp)]
    unfold rrEnd
    rw [if_neg (by simp), if_pos (by omega)]
    exact hV
  · rw [if_pos (by omega)]; exact hv
  · rw [← hV]; exact sign_mul hs hv
theorem RR_turn {n : Nat} {a b qs : List Int} {s s' g h h' V : Int} {ka kb kg kh : Nat} (hb1 : 1 < b.length) (hl : b.length ≤ a.length) (h5 : a.length ≤ 5) (ha0 : a.getLastD 0 ≠ 0) (hb0 : b.getLastD 0 ≠ 0)
    (ha : LBd ka a) (hb : LBd kb b) (hg : Bd kg g) (hh : Bd kh h) (g0 : g ≠ 0) (h0 : h ≠ 0)
    (hk : ka + 11 * kb + 7 ≤ 100000) (hk2 : kg + (kh * (a.length - b.length) + 1) ≤ 8000) (hk3 : kh ≤ 8000)
    (hU : premU b (a.length + 1 - b.length) a = qs.map fun x => x * (g * h ^ (a.length - b.length))) (hs : rrS a b s = s') (hH : rrH a b h = h')
    (next : LBd (ka + 11 * kb + 7) (ztrimP qs) → RR n b (ztrimP qs) s' (b.getLastD 0) h' V) : RR (n + 1) a b s g h V := by
  have hd : g * h ^ (a.length - b.length) ≠ 0 := Int.mul_ne_zero g0 (Int.pow_ne_zero h0)
  have hB : rrB a b g h = ztrimP qs := by
    unfold rrB
    rw [premP_eq (by omega) hb0 ha0 hl, hU, ztrimP_map hd, List.map_map]
    rw [show (ztrimP qs).map ((fun x => x.fdiv (g * h ^ (a.length - b.length))) ∘ fun x => x * (g * h ^ (a.length - b.length))) = (ztrimP qs).map id from List.map_congr_left fun x _ => Int.mul_fdiv_cancel x hd, List.map_id]
  have nx := next (hB ▸ rrB_bd (by omega) hl h5 ha hb hk)
  refine ⟨?_, ⟨fun _ => ⟨rr_turn (by omega) hl h5 ha hb hg hh g0 h0 hk hk2 hk3, ?_⟩, fun h => absurd hb1 h⟩, nx.2.2⟩
  · rw [rrLoop, if_pos hb1, hB, hs, hH]; exact nx.1
  · rw [hB, hs, hH]; exact nx.2.1
theorem zt0 : ztrimP [] = [] := rfl
theorem zt1 (x : Int) : (x = 0 ∧ ztrimP [x] = []) ∨ (x ≠ 0 ∧ ztrimP [x] = [x]) := by
  by_cases h : x = 0
  · exact .inl ⟨h, by rw [h]; rfl⟩
  · exact .inr ⟨h, ztrimP_snoc (xs := []) h⟩
theorem zt2 (x y : Int) : (x = 0 ∧ y = 0 ∧ ztrimP [x, y] = []) ∨ (x ≠ 0 ∧ y = 0 ∧ ztrimP [x, y] = [x]) ∨ (y ≠ 0 ∧ ztrimP [x, y] = [x, y]) := by
  by_cases h : y = 0
  · subst h
    have e : ztrimP [x, 0] = ztrimP [x] := ztrimP_snoc0 [x]
    rcases zt1 x with ⟨hx, ez⟩ | ⟨hx, ez⟩
    · exact .inl ⟨hx, rfl, e.trans ez⟩
    · exact .inr (.inl ⟨hx, rfl, e.trans ez⟩)
  · exact .inr (.inr ⟨h, ztrimP_snoc (xs := [x]) h⟩)
theorem zt3 (x y z : Int) : (x = 0 ∧ y = 0 ∧ z = 0 ∧ ztrimP [x, y, z] = []) ∨ (x ≠ 0 ∧ y = 0 ∧ z = 0 ∧ ztrimP [x, y, z] = [x]) ∨ (y ≠ 0 ∧ z = 0 ∧ ztrimP [x, y, z] = [x, y]) ∨ (z ≠ 0 ∧ ztrimP [x, y, z] = [x, y, z]) := by
  by_cases h : z = 0
  · subst h
    have e : ztrimP [x, y, 0] = ztrimP [x, y] := ztrimP_snoc0 [x, y]
    rcases zt2 x y with ⟨hx, hy, ez⟩ | ⟨hx, hy, ez⟩ | ⟨hy, ez⟩
    · exact .inl ⟨hx, hy, rfl, e.trans ez⟩
    · exact .inr (.inl ⟨hx, hy, rfl, e.trans ez⟩)
    · exact .inr (.inr (.inl ⟨hy, rfl, e.trans ez⟩))
  · exact .inr (.inr (.inr ⟨h, ztrimP_snoc (xs := [x, y]) h⟩))
end Mine
end
section
set_option maxRecDepth 100000
set_option maxHeartbeats 4000000
namespace Mine
theorem S_44 (a0 a1 a2 a3 b0 b1 b2 b3 : Int) : stepU [b0, b1, b2, b3] [a0, a1, a2, a3] = [(a0 * b3 - b0 * a3), (a1 * b3 - b1 * a3), (a2 * b3 - b2 * a3)] := rfl
theorem S_54 (a0 a1 a2 a3 a4 b0 b1 b2 b3 : Int) : stepU [b0, b1, b2, b3] [a0, a1, a2, a3, a4] = [(a0 * b3 - 0), (a1 * b3 - b0 * a4), (a2 * b3 - b1 * a4), (a3 * b3 - b2 * a4)] := rfl
theorem S_33 (a0 a1 a2 b0 b1 b2 : Int) : stepU [b0, b1, b2] [a0, a1, a2] = [(a0 * b2 - b0 * a2), (a1 * b2 - b1 * a2)] := rfl
theorem S_43 (a0 a1 a2 a3 b0 b1 b2 : Int) : stepU [b0, b1, b2] [a0, a1, a2, a3] = [(a0 * b2 - 0), (a1 * b2 - b0 * a3), (a2 * b2 - b1 * a3)] := rfl
theorem S_22 (a0 a1 b0 b1 : Int) : stepU [b0, b1] [a0, a1] = [(a0 * b1 - b0 * a1)] := rfl
theorem S_32 (a0 a1 a2 b0 b1 : Int) : stepU [b0, b1] [a0, a1, a2] = [(a0 * b1 - 0), (a1 * b1 - b0 * a2)] := rfl
theorem S_53 (a0 a1 a2 a3 a4 b0 b1 b2 : Int) : stepU [b0, b1, b2] [a0, a1, a2, a3, a4] = [(a0 * b2 - 0), (a1 * b2 - 0), (a2 * b2 - b0 * a4), (a3 * b2 - b1 * a4)] := rfl
theorem S_42 (a0 a1 a2 a3 b0 b1 : Int) : stepU [b0, b1] [a0, a1, a2, a3] = [(a0 * b1 - 0), (a1 * b1 - 0), (a2 * b1 - b0 * a3)] := rfl
theorem S_52 (a0 a1 a2 a3 a4 b0 b1 : Int) : stepU [b0, b1] [a0, a1, a2, a3, a4] = [(a0 * b1 - 0), (a1 * b1 - 0), (a2 * b1 - 0), (a3 * b1 - b0 * a4)] := rfl
theorem U_54 (a0 a1 a2 a3 a4 b0 b1 b2 b3 : Int) : premU [b0, b1, b2, b3] 2 [a0, a1, a2, a3, a4] = [((a0 * b3 - 0) * b3 - b0 * (a3 * b3 - b2 * a4)), ((a1 * b3 - b0 * a4) * b3 - b1 * (a3 * b3 - b2 * a4)), ((a2 * b3 - b1 * a4) * b3 - b2 * (a3 * b3 - b2 * a4))] := by rw [premU, S_54, premU, S_44, premU]
theorem U_43 (a0 a1 a2 a3 b0 b1 b2 : Int) : premU [b0, b1, b2] 2 [a0, a1, a2, a3] = [((a0 * b2 - 0) * b2 - b0 * (a2 * b2 - b1 * a3)), ((a1 * b2 - b0 * a3) * b2 - b1 * (a2 * b2 - b1 * a3))] := by rw [premU, S_43, premU, S_33, premU]
theorem U_32 (a0 a1 a2 b0 b1 : Int) : premU [b0, b1] 2 [a0, a1, a2] = [((a0 * b1 - 0) * b1 - b0 * (a1 * b1 - b0 * a2))] := by rw [premU, S_32, premU, S_22, premU]
theorem U_53 (a0 a1 a2 a3 a4 b0 b1 b2 : Int) : premU [b0, b1, b2] 3 [a0, a1, a2, a3, a4] = [(((a0 * b2 - 0) * b2 - 0) * b2 - b0 * ((a2 * b2 - b0 * a4) * b2 - b1 * (a3 * b2 - b1 * a4))), (((a1 * b2 - 0) * b2 - b0 * (a3 * b2 - b1 * a4)) * b2 - b1 * ((a2 * b2 - b0 * a4) * b2 - b1 * (a3 * b2 - b1 * a4)))] := by rw [premU, S_53, premU, S_43, premU, S_33, premU]
theorem U_42 (a0 a1 a2 a3 b0 b1 : Int) : premU [b0, b1] 3 [a0, a1, a2, a3] = [(((a0 * b1 - 0) * b1 - 0) * b1 - b0 * ((a1 * b1 - 0) * b1 - b0 * (a2 * b1 - b0 * a3)))] := by rw [premU, S_42, premU, S_32, premU, S_22, premU]
theorem U_52 (a0 a1 a2 a3 a4 b0 b1 : Int) : premU [b0, b1] 4 [a0, a1, a2, a3, a4] = [((((a0 * b1 - 0) * b1 - 0) * b1 - 0) * b1 - b0 * (((a1 * b1 - 0) * b1 - 0) * b1 - b0 * ((a2 * b1 - 0) * b1 - b0 * (a3 * b1 - b0 * a4))))] := by rw [premU, S_52, premU, S_42, premU, S_32, premU, S_22, premU]
theorem l1 {x x' : Int} (h : x = x') : [x] = [x'] := by rw [h]
theorem l2 {x x' y y' : Int} (h : x = x') (k : y = y') : [x, y] = [x', y'] := by rw [h, k]
theorem l3 {x x' y y' z z' : Int} (h : x = x') (k : y = y') (l : z = z') : [x, y, z] = [x', y', z'] := by rw [h, k, l]
theorem cancel {k x y : Int} (hk : k ≠ 0) (h : k * x = k * y) : x = y := Int.eq_of_mul_eq_mul_left hk h
/-- the determinant of Bezout's matrix -/
noncomputable def D2 (f0 f1 g0 g1 : Int) : Int := det2 (f1*g0-f0*g1) g0 g0 g1
noncomputable def D3 (f0 f1 f2 g0 g1 g2 : Int) : Int := det3 (f1*g0-f0*g1) (f2*g0-f0*g2) g0 (f2*g0-f0*g2) (f2*g1-f1*g2+g0) g1 g0 g1 g2
noncomputable def D4 (f0 f1 f2 f3 g0 g1 g2 g3 : Int) : Int :=
  det4 (f1*g0-f0*g1) (f2*g0-f0*g2) (f3*g0-f0*g3) g0
       (f2*g0-f0*g2) (f2*g1-f1*g2+(f3*g0-f0*g3)) (f3*g1-f1*g3+g0) g1
       (f3*g0-f0*g3) (f3*g1-f1*g3+g0) (f3*g2-f2*g3+g1) g2
       g0 g1 g2 g3
theorem sylv (b00 b01 b02 b03 b11 b12 b13 b22 b23 b33 : Int) : det4 b00 b01 b02 b03 b01 b11 b12 b13 b02 b12 b22 b23 b03 b13 b23 b33 * (b22*b33-b23*b23) = det3 b00 b02 b03 b02 b22 b23 b03 b23 b33 * det3 b11 b12 b13 b12 b22 b23 b13 b23 b33 - det3 b01 b12 b13 b02 b22 b23 b03 b23 b33 * det3 b01 b12 b13 b02 b22 b23 b03 b23 b33 := by
  unfold det4 det3; grind
theorem schur4 (b00 b01 b02 b03 b11 b12 b13 b22 b23 b33 : Int) : det4 b00 b01 b02 b03 b01 b11 b12 b13 b02 b12 b22 b23 b03 b13 b23 b33 * (b33*b33) = det3 (b00*b33-b03*b03) (b01*b33-b03*b13) (b02*b33-b03*b23) (b01*b33-b03*b13) (b11*b33-b13*b13) (b12*b33-b13*b23) (b02*b33-b03*b23) (b12*b33-b13*b23) (b22*b33-b23*b23) := by
  unfold det4 det3; grind
theorem schur3 (a b c d e f g h i : Int) : det3 a b c d e f g h i * i = (a*i-c*g)*(e*i-f*h)-(b*i-c*h)*(d*i-f*g) := by
  unfold det3; grind
/-- the case n = 4, m = 3: what the path needs of the determinant -/
structure P43 (g0 g1 g2 g3 p0 p1 p2 M00 M10 M11 D : Int) : Prop where
  e0 : p2*(p2*g0) - (p2*g2-p1*g3)*p0 = (-M10) * (g3*g3)
  e1 : p2*(p2*g1-p0*g3) - (p2*g2-p1*g3)*p1 = (-M11) * (g3*g3)
  s : D * p2 = M10 * M10 - M00 * M11
  r : p2 * (M10 * M10) - p1 * (M10 * M11) + p0 * (M11 * M11) = D * (p2 * p2)
  k : p2 = 0 → g0*(p1*p1*p1) - g1*p0*(p1*p1) + g2*(p0*p0)*p1 - g3*(p0*p0*p0) = (-D) * (g3*(g3*g3))
theorem q1a (a b : Int) : (-a) * (b*b) = -(a*b*b) := by grind
theorem q1b (p0 p1 p2 g3 S : Int) : -((-(p2*S) - p1*p0)*g3) = p2*(g3*S) + p1*p0*g3 := by grind
theorem q1c (p0 p1 p2 g0 g2 g3 : Int) : p2*(p2*g0) - (p2*g2-p1*g3)*p0 = p2*(p2*g0 - p0*g2) + p1*p0*g3 := by grind
theorem q1d (p0 p1 p2 g1 g2 g3 : Int) : p2*(p2*g1-p0*g3) - (p2*g2-p1*g3)*p1 = p2*(-(g3*p0) + p2*g1 - p1*g2) + p1*p1*g3 := by grind
theorem q2a (p0 p1 p2 g3 M00 M10 M11 : Int) : g3*g3*(p0 * M11 - p1 * M10 + p2 * M00) = g3*(p0*(M11*g3) - p1*(M10*g3) + p2*(M00*g3)) := by grind
theorem q2b (p0 p1 p2 g3 S00 S01 S11 : Int) : g3*(p0*(-(p2*S11) - p1*p1) - p1*(-(p2*S01) - p1*p0) + p2*(-(p2*S00) - p0*p0)) = -(p0*p2*(g3*S11)) + p1*p2*(g3*S01) - p2*p2*(g3*S00) - g3*p2*(p0*p0) := by grind
theorem q2c (p0 p1 p2 g0 g1 g2 g3 : Int) : -(p0*p2*(-(g3*p0) + p2*g1 - p1*g2)) + p1*p2*(p2*g0 - p0*g2) - p2*p2*(p1*g0 - p0*g1) - g3*p2*(p0*p0) = g3 * g3 * 0 := by grind
theorem q3a (p0 p1 p2 M00 M10 M11 : Int) : p2 * (M10 * M10) - p1 * (M10 * M11) + p0 * (M11 * M11) = p2 * (M10*M10) + M11 * ((p0 * M11 - p1 * M10 + p2 * M00) - p2*M00) := by grind
theorem q3b (D p2 : Int) : D * (p2*p2) = (D*p2)*p2 := by grind
theorem q3c (p2 M00 M10 M11 : Int) : p2 * (M10*M10) + M11 * (0 - p2*M00) = (M10 * M10 - M00 * M11) * p2 := by grind
theorem q4a (D g3 : Int) : (-D) * (g3*(g3*g3)) = -(g3 * (D*(g3*g3))) := by grind
theorem q4b (p0 p1 g3 S00 S01 S11 : Int) : g3 * det3 S00 S01 (-p0) S01 S11 (-p1) (-p0) (-p1) (-0) = -((g3*S00)*(p1*p1)) + 2*(g3*S01)*(p0*p1) - (g3*S11)*(p0*p0) := by unfold det3; grind
theorem q4c (p0 p1 g0 g1 g2 g3 : Int) : g0*(p1*p1*p1) - g1*p0*(p1*p1) + g2*(p0*p0)*p1 - g3*(p0*p0*p0) = -(-((p1*g0 - p0*g1)*(p1*p1)) + 2*(0*g0 - p0*g2)*(p0*p1) - (-(g3*p0) + 0*g1 - p1*g2)*(p0*p0)) := by grind
theorem P43.mk' {g0 g1 g2 g3 p0 p1 p2 M00 M10 M11 D S00 S01 S11 : Int} (h3 : g3 ≠ 0)
    (r00 : g3*S00 = p1*g0 - p0*g1) (r01 : g3*S01 = p2*g0 - p0*g2) (r11 : g3*S11 = -(g3*p0) + p2*g1 - p1*g2)
    (m00 : M00*g3 = -(p2*S00) - p0*p0) (m10 : M10*g3 = -(p2*S01) - p1*p0) (m11 : M11*g3 = -(p2*S11) - p1*p1)
    (hs : D * p2 = M10 * M10 - M00 * M11) (hD : D * (g3*g3) = det3 S00 S01 (-p0) S01 S11 (-p1) (-p0) (-p1) (-p2)) : P43 g0 g1 g2 g3 p0 p1 p2 M00 M10 M11 D := by
  have e0 : p2*(p2*g0) - (p2*g2-p1*g3)*p0 = (-M10) * (g3*g3) := by
    rw [q1a, m10, q1b, r01, q1c]
  have e1 : p2*(p2*g1-p0*g3) - (p2*g2-p1*g3)*p1 = (-M11) * (g3*g3) := by
    rw [q1a, m11, q1b, r11, q1d]
  have J : p0 * M11 - p1 * M10 + p2 * M00 = 0 := by
    refine cancel (k := g3 * g3) (Int.mul_ne_zero h3 h3) ?_
    rw [q2a, m00, m10, m11, q2b, r00, r01, r11, q2c]
  refine ⟨e0, e1, hs, ?_, ?_⟩
  · refine (q3a _ _ _ M00 _ _).trans ?_
    rw [J, q3b D p2, hs, q3c]
  · intro hp2
    subst hp2
    rw [q4a, hD, q4b, r00, r01, r11, q4c]
theorem e02 (f0 f3 g0 g2 g3 : Int) : (f3*g0-f0*g3)*g3 - g0*g2 = -(f0*g3*g3 - f3*g0*g3 + g0*g2) := by grind
theorem e02' (f0 f3 g0 g2 g3 : Int) : (f3*g0-f0*g3)*g3 - g2*g0 = -(f0*g3*g3 - f3*g0*g3 + g0*g2) := by grind
theorem e12 (f1 f3 g0 g1 g2 g3 : Int) : (f3*g1-f1*g3+g0)*g3 - g1*g2 = -(f1*g3*g3 - f3*g1*g3 - g0*g3 + g1*g2) := by grind
theorem e12' (f1 f3 g0 g1 g2 g3 : Int) : (f3*g1-f1*g3+g0)*g3 - g2*g1 = -(f1*g3*g3 - f3*g1*g3 - g0*g3 + g1*g2) := by grind
theorem e22 (f2 f3 g1 g2 g3 : Int) : (f3*g2-f2*g3+g1)*g3 - g2*g2 = -(f2*g3*g3 - f3*g2*g3 - g1*g3 + g2*g2) := by grind
theorem r00 (f0 f1 f3 g0 g1 g2 g3 : Int) : g3*((f1*g0-f0*g1)*g3-g0*g0) = (f1*g3*g3 - f3*g1*g3 - g0*g3 + g1*g2)*g0 - (f0*g3*g3 - f3*g0*g3 + g0*g2)*g1 := by grind
theorem r01 (f0 f2 f3 g0 g1 g2 g3 : Int) : g3*((f2*g0-f0*g2)*g3-g0*g1) = (f2*g3*g3 - f3*g2*g3 - g1*g3 + g2*g2)*g0 - (f0*g3*g3 - f3*g0*g3 + g0*g2)*g2 := by grind
theorem r11 (f0 f1 f2 f3 g0 g1 g2 g3 : Int) : g3*((f2*g1-f1*g2+(f3*g0-f0*g3))*g3-g1*g1) = -(g3*(f0*g3*g3 - f3*g0*g3 + g0*g2)) + (f2*g3*g3 - f3*g2*g3 - g1*g3 + g2*g2)*g1 - (f1*g3*g3 - f3*g1*g3 - g0*g3 + g1*g2)*g2 := by grind
theorem n1 (S p q r : Int) : S * -p - -q * -r = -(p*S) - q*r := by grind
theorem n2 (a b c : Int) (h : a * -b = c) : a * b = -c := by rw [Int.mul_neg] at h; omega
theorem p43 {f0 f1 f2 f3 g0 g1 g2 g3 p0 p1 p2 : Int} (h3 : g3 ≠ 0) (hp0 : p0 = f0*g3*g3 - f3*g0*g3 + g0*g2) (hp1 : p1 = f1*g3*g3 - f3*g1*g3 - g0*g3 + g1*g2) (hp2 : p2 = f2*g3*g3 - f3*g2*g3 - g1*g3 + g2*g2) : ∃ M00 M10 M11, P43 g0 g1 g2 g3 p0 p1 p2 M00 M10 M11 (D4 f0 f1 f2 f3 g0 g1 g2 g3) := by
  have m00 := schur3 (f1*g0-f0*g1) (f3*g0-f0*g3) g0 (f3*g0-f0*g3) (f3*g2-f2*g3+g1) g2 g0 g2 g3
  have m11 := schur3 (f2*g1-f1*g2+(f3*g0-f0*g3)) (f3*g1-f1*g3+g0) g1 (f3*g1-f1*g3+g0) (f3*g2-f2*g3+g1) g2 g1 g2 g3
  have m10 := schur3 (f2*g0-f0*g2) (f3*g1-f1*g3+g0) g1 (f3*g0-f0*g3) (f3*g2-f2*g3+g1) g2 g0 g2 g3
  have hs := sylv (f1*g0-f0*g1) (f2*g0-f0*g2) (f3*g0-f0*g3) g0 (f2*g1-f1*g2+(f3*g0-f0*g3)) (f3*g1-f1*g3+g0) g1 (f3*g2-f2*g3+g1) g2 g3
  have hd := schur4 (f1*g0-f0*g1) (f2*g0-f0*g2) (f3*g0-f0*g3) g0 (f2*g1-f1*g2+(f3*g0-f0*g3)) (f3*g1-f1*g3+g0) g1 (f3*g2-f2*g3+g1) g2 g3
  rw [e02, e12, e22, ← hp0, ← hp1, ← hp2] at hd
  rw [e02, e02', e22, ← hp0, ← hp2, n1] at m00
  rw [e12 f1 f3 g0 g1 g2 g3, e12' f1 f3 g0 g1 g2 g3, e22, ← hp1, ← hp2, n1] at m11
  rw [e12 f1 f3 g0 g1 g2 g3, e02', e22, ← hp0, ← hp1, ← hp2, n1] at m10
  rw [e22, ← hp2] at hs
  have k00 := r00 f0 f1 f3 g0 g1 g2 g3
  have k01 := r01 f0 f2 f3 g0 g1 g2 g3
  have k11 := r11 f0 f1 f2 f3 g0 g1 g2 g3
  rw [← hp0, ← hp1] at k00
  rw [← hp0, ← hp2] at k01
  rw [← hp0, ← hp1, ← hp2] at k11
  rw [Int.mul_comm g1 g0] at m10
  exact ⟨_, _, _, P43.mk' h3 k00 k01 k11 m00 m10 m11 ((n2 _ _ _ hs).trans (Int.neg_sub _ _)) hd⟩
end Mine
end
section
set_option maxRecDepth 100000
set_option maxHeartbeats 4000000
namespace Mine
theorem u54_0 (f0 f3 g0 g2 g3 : Int) : (f0 * g3 - 0) * g3 - g0 * (f3 * g3 - g2 * 1) = (f0*g3*g3 - f3*g0*g3 + g0*g2) * (1 * 1 ^ 1) := by grind
theorem u54_1 (f1 f3 g0 g1 g2 g3 : Int) : (f1 * g3 - g0 * 1) * g3 - g1 * (f3 * g3 - g2 * 1) = (f1*g3*g3 - f3*g1*g3 - g0*g3 + g1*g2) * (1 * 1 ^ 1) := by grind
theorem u54_2 (f2 f3 g1 g2 g3 : Int) : (f2 * g3 - g1 * 1) * g3 - g2 * (f3 * g3 - g2 * 1) = (f2*g3*g3 - f3*g2*g3 - g1*g3 + g2*g2) * (1 * 1 ^ 1) := by grind
theorem u43_0 (g0 g2 g3 p0 p1 p2 : Int) : (g0 * p2 - 0) * p2 - p0 * (g2 * p2 - p1 * g3) = p2*(p2*g0) - (p2*g2-p1*g3)*p0 := by grind
theorem u43_1 (g1 g2 g3 p0 p1 p2 : Int) : (g1 * p2 - p0 * g3) * p2 - p1 * (g2 * p2 - p1 * g3) = p2*(p2*g1-p0*g3) - (p2*g2-p1*g3)*p1 := by grind
theorem u32_0 (p0 p1 p2 q0 q1 : Int) : (p0 * -q1 - 0) * -q1 - -q0 * (p1 * -q1 - -q0 * p2) = p2 * (q0*q0) - p1 * (q0*q1) + p0*(q1*q1) := by grind
theorem u42_0 (g0 g1 g2 g3 p0 p1 : Int) : ((g0 * p1 - 0) * p1 - 0) * p1 - p0 * ((g1 * p1 - 0) * p1 - p0 * (g2 * p1 - p0 * g3)) = g0*(p1*p1*p1) - g1*p0*(p1*p1) + g2*(p0*p0)*p1 - g3*(p0*p0*p0) := by grind
theorem pw1 (x : Int) : x ^ 1 = x := by rw [Int.pow_succ, Int.pow_zero, Int.one_mul]
theorem pw2 (x : Int) : x ^ 2 = x * x := by rw [Int.pow_succ, pw1]
theorem pw3 (x : Int) : x ^ 3 = x * x * x := by rw [Int.pow_succ, pw2]
theorem hH1 {a b : List Int} {h : Int} (hl : a.length - b.length = 1) : rrH a b h = b.getLastD 0 := by
  unfold rrH; rw [hl, if_pos (by decide), pw1]; show (b.getLastD 0).fdiv (h ^ 0) = _; rw [Int.pow_zero]; exact Int.fdiv_one _
theorem hHone {a b : List Int} (hl : 0 < a.length - b.length) : rrH a b 1 = b.getLastD 0 ^ (a.length - b.length) := by
  unfold rrH; rw [if_pos hl, Int.one_pow]; exact Int.fdiv_one _
theorem fd1 (x : Int) : x.fdiv 1 = x := Int.fdiv_one x
theorem RR_one' {n : Nat} {a : List Int} {c s g h V : Int} {kc kh : Nat} (hs : s = 1 ∨ s = -1) (h1 : a.length = 2) (hc : Bd kc c) (hh : Bd kh h) (hk : kc ≤ 20000) (hk3 : kh ≤ 8000) (hV : s * c = V) : RR (n + 1) a [c] s g h V := by
  have e : ((c ^ (a.length - 1)).fdiv (h ^ (a.length - 1 - 1))) = c := by
    rw [h1]; show ((c ^ 1).fdiv (h ^ 0)) = c
    rw [pw1, Int.pow_zero, fd1]
  refine ⟨?_, ⟨fun h => absurd h (by simp), fun _ _ => ⟨by omega, by omega, hc.sm (by omega), hh.sm (by omega), sign_sm hs, fun _ => ?_, ?_⟩⟩, ?_⟩
  · rw [rrLoop, if_neg (by simp)]
    unfold rrEnd
    rw [if_neg (by simp), if_pos (by omega)]
    show s * ((c ^ (a.length - 1)).fdiv (h ^ (a.length - 1 - 1))) = V
    rw [e]; exact hV
  · rw [h1]; show DivOk (h ^ 0); rw [Int.pow_zero]; exact ⟨by decide, Bd.one (by decide)⟩
  · rw [if_pos (by omega)]; show Sm ((c ^ (a.length - 1)).fdiv (h ^ (a.length - 1 - 1))); rw [e]; exact hc.sm (by omega)
  · rw [← hV]; exact sign_mul hs (hc.sm (by omega))
theorem nz {p : Int} (h : p = 0) : -p = 0 := by omega
theorem nz' {p : Int} (h : -p = 0) : p = 0 := by omega
theorem sq0 {D p2 : Int} (h : p2 ≠ 0) {M10 M00 M11 : Int} (hs : D * p2 = M10 * M10 - M00 * M11) (h1 : M11 = 0) : 1 * ((-M10) ^ 2).fdiv (p2 ^ 1) = D := by
  subst h1
  rw [pw1, pw2, Int.one_mul, Int.neg_mul_neg]
  exact fdiv_of h (by rw [Int.mul_comm p2, hs, Int.mul_zero, Int.sub_zero])
theorem cube0 {D g p : Int} (h : g ≠ 0) (hk : -(g * (p*p*p)) = (-D) * (g*(g*g))) : 1 * (p ^ 3).fdiv (g ^ 2) = D := by
  rw [pw3, pw2, Int.one_mul]
  refine fdiv_of (Int.mul_ne_zero h h) (cancel h ?_)
  have e : g * (g * g * D) = -((-D) * (g * (g * g))) := by clear hk h; grind
  rw [e, ← hk, Int.neg_neg]
theorem k01 (g0 g1 g2 g3 p : Int) : g0*(0*0*0) - g1*p*(0*0) + g2*(p*p)*0 - g3*(p*p*p) = -(g3*(p*p*p)) := by grind
theorem rr_54 {f0 f1 f2 f3 g0 g1 g2 g3 : Int} (hf : LBd 20 [f0, f1, f2, f3, 1]) (hg : LBd 3 [g0, g1, g2, g3]) (h3 : g3 ≠ 0) : RR 5 [f0, f1, f2, f3, 1] [g0, g1, g2, g3] 1 1 1 (D4 f0 f1 f2 f3 g0 g1 g2 g3) := by
  obtain ⟨p0, hp0⟩ : ∃ p, p = f0*g3*g3 - f3*g0*g3 + g0*g2 := ⟨_, rfl⟩
  obtain ⟨p1, hp1⟩ : ∃ p, p = f1*g3*g3 - f3*g1*g3 - g0*g3 + g1*g2 := ⟨_, rfl⟩
  obtain ⟨p2, hp2⟩ : ∃ p, p = f2*g3*g3 - f3*g2*g3 - g1*g3 + g2*g2 := ⟨_, rfl⟩
  obtain ⟨M00, M10, M11, P⟩ := p43 h3 hp0 hp1 hp2
  have bg : Bd 3 g3 := hg g3 (by simp)
  generalize D4 f0 f1 f2 f3 g0 g1 g2 g3 = D at P ⊢
  refine RR_turn (qs := [p0, p1, p2]) (s' := 1) (h' := g3) (ka := 20) (kb := 3) (kg := 1) (kh := 1) (by simp) (by simp) (by simp) (by simp) h3 hf hg (Bd.one (by decide)) (Bd.one (by decide)) (by decide) (by decide) (by decide) (by simp) (by decide) ?_ (by simp [rrS]) (hH1 (by simp)) (fun hb => ?_)
  · refine (U_54 f0 f1 f2 f3 1 g0 g1 g2 g3).trans ?_
    rw [hp0, hp1, hp2]
    exact l3 (u54_0 _ _ _ _ _) (u54_1 _ _ _ _ _ _) (u54_2 _ _ _ _ _)
  clear hp0 hp1 hp2 hf
  rcases zt3 p0 p1 p2 with ⟨z0, z1, z2, ez⟩ | ⟨z0, z1, z2, ez⟩ | ⟨z1, z2, ez⟩ | ⟨z2, ez⟩ <;> rw [ez] at hb ⊢
  · have k := P.k z2
    rw [z0, z1, k01] at k
    have k2 := cube0 h3 k
    exact RR_nil (k2 ▸ by simp)
  · have k := P.k z2
    rw [z1, k01] at k
    exact RR_one (kc := 60) (kh := 3) (.inl rfl) (by simp) (by simp) (hb p0 (by simp)) bg h3 (by decide) (by decide) (by simp) (cube0 h3 k)
  · have k := P.k z2
    have b1 : Bd 60 p1 := hb p1 (by simp)
    refine RR_turn (qs := [-D]) (s' := -1) (h' := rrH [g0, g1, g2, g3] [p0, p1] g3) (ka := 3) (kb := 60) (kg := 3) (kh := 3) (by simp) (by simp) (by simp) h3 z1 hg hb bg bg h3 h3 (by decide) (by simp) (by decide) ?_ (by simp [rrS]) rfl (fun hc => ?_)
    · refine (U_42 g0 g1 g2 g3 p0 p1).trans (l1 ?_)
      rw [u42_0, k]
      show _ = -D * (g3 * g3 ^ 2)
      rw [pw2]
    · rcases zt1 (-D) with ⟨y0, ey⟩ | ⟨y0, ey⟩ <;> rw [ey] at hc ⊢
      · exact RR_nil (nz' y0)
      · have hh : Bd 200 (rrH [g0, g1, g2, g3] [p0, p1] g3) := by
          show Bd 200 ((p1 ^ 2).fdiv (g3 ^ 1))
          exact (Bd.fdiv (b1.pow 2)).mono (by decide)
        exact RR_one' (kc := 670) (kh := 200) (.inr rfl) (by simp) (hc _ (by simp)) hh (by decide) (by decide) (by rw [Int.neg_mul_neg, Int.one_mul])
  · have b2 : Bd 60 p2 := hb p2 (by simp)
    refine RR_turn (qs := [-M10, -M11]) (s' := 1) (h' := p2) (ka := 3) (kb := 60) (kg := 3) (kh := 3) (by simp) (by simp) (by simp) h3 z2 hg hb bg bg h3 h3 (by decide) (by simp) (by decide) ?_ (by simp [rrS]) (hH1 (by simp)) (fun hc => ?_)
    · refine (U_43 g0 g1 g2 g3 p0 p1 p2).trans (l2 ?_ ?_)
      · rw [u43_0, P.e0]; show _ = -M10 * (g3 * g3 ^ 1); rw [pw1]
      · rw [u43_1, P.e1]; show _ = -M11 * (g3 * g3 ^ 1); rw [pw1]
    rcases zt2 (-M10) (-M11) with ⟨y0, y1, ey⟩ | ⟨y0, y1, ey⟩ | ⟨y1, ey⟩ <;> rw [ey] at hc ⊢
    · have k2 := sq0 z2 P.s (nz' y1)
      rw [y0] at k2
      exact RR_nil (k2 ▸ by simp)
    · exact RR_one (kc := 700) (kh := 60) (.inl rfl) (by simp) (by simp) ((hc _ (by simp)).mono (by decide)) b2 z2 (by decide) (by decide) (by simp) (sq0 z2 P.s (nz' y1))
    · have c1 := hc (-M11) (by simp)
      refine RR_turn (qs := [D]) (s' := 1) (h' := -M11) (ka := 60) (kb := 670) (kg := 60) (kh := 60) (by simp) (by simp) (by simp) z2 y1 hb hc b2 b2 z2 z2 (by decide) (by simp) (by decide) ?_ (by simp [rrS]) (hH1 (by simp)) (fun hd => ?_)
      · refine (U_32 p0 p1 p2 (-M10) (-M11)).trans (l1 ?_)
        rw [u32_0, P.r]; show _ = D * (p2 * p2 ^ 1); rw [pw1]
      · rcases zt1 D with ⟨x0, ex⟩ | ⟨x0, ex⟩ <;> rw [ex] at hd ⊢
        · exact RR_nil x0
        · exact RR_one (kc := 7437) (kh := 670) (.inl rfl) (by simp) (by simp) (hd _ (by simp)) c1 y1 (by decide) (by decide) (by simp) (by show 1 * (D ^ 1).fdiv ((-M11) ^ 0) = D; rw [pw1, Int.pow_zero, fd1, Int.one_mul])
end Mine
end
section
set_option maxRecDepth 100000
set_option maxHeartbeats 4000000
namespace Mine
theorem v0 (g0 g1 g2 : Int) : (g0 * 0 - 0) * 0 - 0 * (g1 * 0 - 0 * g2) = 0 := by grind
theorem v1 (g0 g1 g2 p0 : Int) : (g0 * 0 - 0) * 0 - p0 * (g1 * 0 - p0 * g2) = g2 * (p0 * p0) := by grind
theorem v2 (V g h : Int) : V * (g * h) = g * (h * V) := by grind
/-- the last turns of a path: a rest of degree 1 or less -/
theorem rr_tail {g0 g1 g2 p0 p1 V h : Int} {kp kh : Nat} (hg : LBd 3 [g0, g1, g2]) (h2 : g2 ≠ 0) (hp : LBd kp (ztrimP [p0, p1])) (hh : Bd kh h) (h0 : h ≠ 0) (hk : kp ≤ 200) (hk2 : kh ≤ 200)
    (e : (g0 * p1 - 0) * p1 - p0 * (g1 * p1 - p0 * g2) = V * (g2 * h)) : RR 3 [g0, g1, g2] (ztrimP [p0, p1]) 1 g2 h V := by
  have hg2 : Bd 3 g2 := hg g2 (by simp)
  rcases zt2 p0 p1 with ⟨y0, y1, ey⟩ | ⟨y0, y1, ey⟩ | ⟨y1, ey⟩ <;> rw [ey] at hp ⊢
  · rw [y0, y1, v0] at e
    exact RR_nil ((Int.mul_eq_zero.mp e.symm).resolve_right (Int.mul_ne_zero h2 h0))
  · rw [y1, v1, v2 V g2 h] at e
    have e2 := cancel h2 e
    refine RR_one (kc := kp) (kh := kh) (.inl rfl) (by simp) (by simp) (hp p0 (by simp)) hh h0 (by omega) (by omega) ?_ ?_
    · show kh * 1 + 1 ≤ 8000
      omega
    · show 1 * (p0 ^ 2).fdiv (h ^ 1) = V
      rw [pw1, pw2, Int.one_mul]
      exact fdiv_of h0 e2
  · have b1 : Bd kp p1 := hp p1 (by simp)
    refine RR_turn (qs := [V]) (s' := 1) (h' := p1) (ka := 3) (kb := kp) (kg := 3) (kh := kh) (by simp) (by simp) (by simp) h2 y1 hg hp hg2 hh h2 h0 (by omega) ?_ (by omega) ?_ (by simp [rrS]) (hH1 (by simp)) (fun hc => ?_)
    · show 3 + (kh * 1 + 1) ≤ 8000
      omega
    · refine (U_32 g0 g1 g2 p0 p1).trans (l1 (e.trans ?_))
      show _ = V * (g2 * h ^ 1); rw [pw1]
    · rcases zt1 V with ⟨x0, ex⟩ | ⟨x0, ex⟩ <;> rw [ex] at hc ⊢
      · exact RR_nil x0
      · exact RR_one' (kc := 3 + 11 * kp + 7) (kh := kp) (.inl rfl) (by simp) (hc _ (by simp)) b1 (by omega) (by omega) (by rw [Int.one_mul])
theorem w53 (f0 f1 f2 f3 g0 g1 g2 : Int) :
    (g0 * (((f1 * g2 - 0) * g2 - g0 * (f3 * g2 - g1 * 1)) * g2 - g1 * ((f2 * g2 - g0 * 1) * g2 - g1 * (f3 * g2 - g1 * 1))) - 0) * (((f1 * g2 - 0) * g2 - g0 * (f3 * g2 - g1 * 1)) * g2 - g1 * ((f2 * g2 - g0 * 1) * g2 - g1 * (f3 * g2 - g1 * 1))) - (((f0 * g2 - 0) * g2 - 0) * g2 - g0 * ((f2 * g2 - g0 * 1) * g2 - g1 * (f3 * g2 - g1 * 1))) * (g1 * (((f1 * g2 - 0) * g2 - g0 * (f3 * g2 - g1 * 1)) * g2 - g1 * ((f2 * g2 - g0 * 1) * g2 - g1 * (f3 * g2 - g1 * 1))) - (((f0 * g2 - 0) * g2 - 0) * g2 - g0 * ((f2 * g2 - g0 * 1) * g2 - g1 * (f3 * g2 - g1 * 1))) * g2) = D4 f0 f1 f2 f3 g0 g1 g2 0 * (g2 * (g2 * g2)) := by
  unfold D4 det4; grind
theorem w43 (f0 f1 f2 g0 g1 g2 : Int) :
    (g0 * ((f1 * g2 - g0 * 1) * g2 - g1 * (f2 * g2 - g1 * 1)) - 0) * ((f1 * g2 - g0 * 1) * g2 - g1 * (f2 * g2 - g1 * 1)) - ((f0 * g2 - 0) * g2 - g0 * (f2 * g2 - g1 * 1)) * (g1 * ((f1 * g2 - g0 * 1) * g2 - g1 * (f2 * g2 - g1 * 1)) - ((f0 * g2 - 0) * g2 - g0 * (f2 * g2 - g1 * 1)) * g2) = (-D3 f0 f1 f2 g0 g1 g2) * (g2 * g2) := by
  unfold D3 det3; grind
theorem map_one (x : Int) (k : Nat) : x = x * (1 * 1 ^ k) := by rw [Int.one_pow, Int.one_mul, Int.mul_one]
theorem rr_53 {f0 f1 f2 f3 g0 g1 g2 : Int} (hf : LBd 20 [f0, f1, f2, f3, 1]) (hg : LBd 3 [g0, g1, g2]) (h2 : g2 ≠ 0) : RR 4 [f0, f1, f2, f3, 1] [g0, g1, g2] 1 1 1 (D4 f0 f1 f2 f3 g0 g1 g2 0) := by
  have hg2 : Bd 3 g2 := hg g2 (by simp)
  have w := w53 f0 f1 f2 f3 g0 g1 g2
  refine RR_turn (qs := [_, _]) (s' := 1) (h' := g2 * g2) (ka := 20) (kb := 3) (kg := 1) (kh := 1) (by simp) (by simp) (by simp) (by simp) h2 hf hg (Bd.one (by decide)) (Bd.one (by decide)) (by decide) (by decide) (by decide) (by simp) (by decide)
    ((U_53 f0 f1 f2 f3 1 g0 g1 g2).trans (l2 (map_one _ _) (map_one _ _))) (by simp [rrS]) ((hHone (by simp)).trans (pw2 g2)) (fun hb => ?_)
  exact rr_tail hg h2 hb (hg2.mul hg2) (Int.mul_ne_zero h2 h2) (by decide) (by decide) w
theorem rr_43 {f0 f1 f2 g0 g1 g2 : Int} (hf : LBd 20 [f0, f1, f2, 1]) (hg : LBd 3 [g0, g1, g2]) (h2 : g2 ≠ 0) : RR 4 [f0, f1, f2, 1] [g0, g1, g2] 1 1 1 (-D3 f0 f1 f2 g0 g1 g2) := by
  have hg2 : Bd 3 g2 := hg g2 (by simp)
  have w := w43 f0 f1 f2 g0 g1 g2
  refine RR_turn (qs := [_, _]) (s' := 1) (h' := g2) (ka := 20) (kb := 3) (kg := 1) (kh := 1) (by simp) (by simp) (by simp) (by simp) h2 hf hg (Bd.one (by decide)) (Bd.one (by decide)) (by decide) (by decide) (by decide) (by simp) (by decide)
    ((U_43 f0 f1 f2 1 g0 g1 g2).trans (l2 (map_one _ _) (map_one _ _))) (by simp [rrS]) ((hHone (by simp)).trans (pw1 g2)) (fun hb => ?_)
  exact rr_tail hg h2 hb hg2 h2 (by decide) (by decide) w
/-- a path whose second polynomial is linear -/
theorem rr_lin {f : List Int} {g0 g1 p V s' : Int} (hf : LBd 20 f) (hl : 2 < f.length) (hl5 : f.length ≤ 5) (hf0 : f.getLastD 0 ≠ 0) (hg : LBd 3 [g0, g1]) (h1 : g1 ≠ 0)
    (hU : premU [g0, g1] (f.length + 1 - 2) f = [p]) (hs : rrS f [g0, g1] 1 = s') (hs' : s' = 1 ∨ s' = -1) (hV : s' * p = V) : RR 3 f [g0, g1] 1 1 1 V := by
  have hg1 : Bd 3 g1 := hg g1 (by simp)
  refine RR_turn (qs := [p]) (s' := s') (h' := g1 ^ (f.length - 2)) (ka := 20) (kb := 3) (kg := 1) (kh := 1) (by simp) (by simp; omega) hl5 hf0 h1 hf hg (Bd.one (by decide)) (Bd.one (by decide)) (by decide) (by decide) (by decide) ?_ (by decide)
    (hU.trans (l1 (map_one _ _))) hs (hHone (by simp; omega)) (fun hb => ?_)
  · show 1 + (1 * (f.length - 2) + 1) ≤ 8000
    omega
  · rcases zt1 p with ⟨x0, ex⟩ | ⟨x0, ex⟩ <;> rw [ex] at hb ⊢
    · exact RR_nil (by rw [← hV, x0, Int.mul_zero])
    · exact RR_one' (kc := 60) (kh := 3 * 3 + 1) hs' (by simp) (hb _ (by simp)) (hg1.powLe (by omega)) (by decide) (by decide) hV
theorem rr_52 {f0 f1 f2 f3 g0 g1 : Int} (hf : LBd 20 [f0, f1, f2, f3, 1]) (hg : LBd 3 [g0, g1]) (h1 : g1 ≠ 0) : RR 3 [f0, f1, f2, f3, 1] [g0, g1] 1 1 1 (D4 f0 f1 f2 f3 g0 g1 0 0) :=
  rr_lin hf (by simp) (by simp) (by simp) hg h1 (U_52 f0 f1 f2 f3 1 g0 g1) (by simp [rrS]) (.inl rfl) (by clear hf hg h1; unfold D4 det4; grind)
theorem rr_42 {f0 f1 f2 g0 g1 : Int} (hf : LBd 20 [f0, f1, f2, 1]) (hg : LBd 3 [g0, g1]) (h1 : g1 ≠ 0) : RR 3 [f0, f1, f2, 1] [g0, g1] 1 1 1 (-D3 f0 f1 f2 g0 g1 0) :=
  rr_lin hf (by simp) (by simp) (by simp) hg h1 (U_42 f0 f1 f2 1 g0 g1) (by simp [rrS]) (.inr rfl) (by clear hf hg h1; unfold D3 det3; grind)
theorem rr_32 {f0 f1 g0 g1 : Int} (hf : LBd 20 [f0, f1, 1]) (hg : LBd 3 [g0, g1]) (h1 : g1 ≠ 0) : RR 3 [f0, f1, 1] [g0, g1] 1 1 1 (-D2 f0 f1 g0 g1) :=
  rr_lin hf (by simp) (by simp) (by simp) hg h1 (U_32 f0 f1 1 g0 g1) (by simp [rrS]) (.inl rfl) (by clear hf hg h1; unfold D2 det2; grind)
theorem rr_con {f : List Int} {c : Int} (hl : 1 < f.length) (hl5 : f.length ≤ 5) (hc : Bd 3 c) : RR 2 f [c] 1 1 1 (c ^ (f.length - 1)) :=
  RR_one (kc := 3) (kh := 1) (.inl rfl) hl hl5 hc (Bd.one (by decide)) (by decide) (by decide) (by decide) (by omega) (by rw [Int.one_pow, fd1, Int.one_mul])
theorem d4c (f0 f1 f2 f3 c : Int) : c ^ 4 = D4 f0 f1 f2 f3 c 0 0 0 := by unfold D4 det4; grind
theorem d3c (f0 f1 f2 c : Int) : c ^ 3 = -D3 f0 f1 f2 c 0 0 := by unfold D3 det3; grind
theorem d2c (f0 f1 c : Int) : c ^ 2 = -D2 f0 f1 c 0 := by unfold D2 det2; grind
end Mine
end
section
set_option maxRecDepth 100000
set_option maxHeartbeats 4000000
namespace Mine
theorem gcd_foldl : ∀ (l : List Int) (a : Int), (l.foldl (fun g n => (Int.gcd g n : Int)) a ∣ a) ∧ ∀ x ∈ l, l.foldl (fun g n => (Int.gcd g n : Int)) a ∣ x
  | [], a => ⟨Int.dvd_refl a, fun _ h => nomatch h⟩
  | y :: l, a => by
    have ih := gcd_foldl l (Int.gcd a y : Int)
    rw [List.foldl_cons]
    refine ⟨Int.dvd_trans ih.1 (Int.gcd_dvd_left ..), fun x hx => ?_⟩
    rcases List.mem_cons.mp hx with rfl | hx
    · exact Int.dvd_trans ih.1 (Int.gcd_dvd_right ..)
    · exact ih.2 x hx
theorem gcdAll_dvd {l : List Int} {x : Int} (h : x ∈ l) : gcdAll l ∣ x := (gcd_foldl l 0).2 x h
theorem gcdAll_nonneg (l : List Int) : 0 ≤ gcdAll l := by
  unfold gcdAll
  rcases List.eq_nil_or_concat l with rfl | ⟨ys, y, rfl⟩
  · exact Int.le_refl 0
  · rw [List.concat_eq_append, List.foldl_append]
    exact Int.natCast_nonneg _
theorem gcdAll_one {l : List Int} (h : (1 : Int) ∈ l) : gcdAll l = 1 := by
  have h1 := gcdAll_dvd h
  have h2 := gcdAll_nonneg l
  exact Int.eq_one_of_dvd_one h2 h1
theorem map_fdiv_one (l : List Int) : (l.map fun x => x.fdiv 1) = l := by
  rw [show (fun x : Int => x.fdiv 1) = id from funext fun x => Int.fdiv_one x, List.map_id]
theorem res_gen {f g : List Int} (hf1 : f.getLastD 0 = 1) (h2 : 2 ≤ f.length) (h5 : f.length ≤ 5) (hg1 : 1 ≤ g.length) (hgl : g.length < f.length) (hg : LBd 3 g) (hg0 : g.getLastD 0 ≠ 0) :
    ∃ c g', g = g'.map (fun x => c * x) ∧ LBd 3 g' ∧ g'.length = g.length ∧ g'.getLastD 0 ≠ 0 ∧ ∀ V, RR (g.length + 1) f g' 1 1 1 V → ResOk f g ∧ resP f g = c ^ (f.length - 1) * V := by
  have hf1' : (1 : Int) ∈ f := hf1 ▸ getLastD_mem (by omega)
  have ef := gcdAll_one hf1'
  have hlm : g.getLastD 0 ∈ g := getLastD_mem (by omega)
  have hc0 : gcdAll g ≠ 0 := fun e => by
    have := gcdAll_dvd hlm
    rw [e] at this
    exact hg0 (Int.zero_dvd.mp this)
  have hcb : Bd 3 (gcdAll g) := by
    have h1 := hg _ hlm
    have h3 := Int.natAbs_dvd_natAbs.mpr (gcdAll_dvd hlm)
    have h4 := Nat.le_of_dvd (by omega) h3
    unfold Bd at h1 ⊢
    omega
  have hmap : ∀ x ∈ g, gcdAll g * x.fdiv (gcdAll g) = x := fun x hx => by
    obtain ⟨k, hk⟩ := gcdAll_dvd hx
    have : x.fdiv (gcdAll g) = k := fdiv_of hc0 hk
    rw [this, ← hk]
  refine ⟨gcdAll g, g.map fun x => x.fdiv (gcdAll g), ?_, ?_, by rw [List.length_map], ?_, ?_⟩
  · rw [List.map_map]
    conv => lhs; rw [← List.map_id g]
    refine List.map_congr_left fun x hx => (hmap x hx).symm
  · intro y hy
    obtain ⟨x, hx, rfl⟩ := List.mem_map.mp hy
    exact Bd.fdiv (hg x hx)
  · have e : (g.map fun x => x.fdiv (gcdAll g)).getLastD 0 = (g.getLastD 0).fdiv (gcdAll g) := by
      rw [List.getLastD_eq_getLast?, List.getLastD_eq_getLast?, List.getLast?_map]
      cases g.getLast? with
      | none => simp
      | some v => rfl
    rw [e]
    intro e2
    have := hmap _ hlm
    rw [e2, Int.mul_zero] at this
    exact hg0 this.symm
  · intro V ⟨hv, ho, hs⟩
    have hpw : Bd 13 (gcdAll g ^ (f.length - 1)) := (hcb.powLe (m := 4) (by omega)).mono (by decide)
    refine ⟨⟨by omega, by omega, by omega, by omega, ?_, ⟨hc0, hcb.mono (by decide)⟩, ?_, hpw.sm (by decide), ?_, ?_, ?_⟩, ?_⟩
    · rw [ef]; exact ⟨by decide, Bd.one (by decide)⟩
    · rw [ef, Int.one_pow]; exact Bd.one (by decide)
    · rw [ef, Int.one_pow, Int.one_mul]; exact hpw.sm (by decide)
    · rw [ef, map_fdiv_one]; exact ho
    · rw [ef, map_fdiv_one, hv]; exact hs
    · unfold resP
      rw [ef, map_fdiv_one, hv, Int.one_pow, Int.one_mul]
theorem h4 (f0 f1 f2 f3 c g0 g1 g2 g3 : Int) : c ^ 4 * D4 f0 f1 f2 f3 g0 g1 g2 g3 = D4 f0 f1 f2 f3 (c * g0) (c * g1) (c * g2) (c * g3) := by unfold D4 det4; grind
theorem h3 (f0 f1 f2 c g0 g1 g2 : Int) : c ^ 3 * D3 f0 f1 f2 g0 g1 g2 = D3 f0 f1 f2 (c * g0) (c * g1) (c * g2) := by unfold D3 det3; grind
theorem h2 (f0 f1 c g0 g1 : Int) : c ^ 2 * D2 f0 f1 g0 g1 = D2 f0 f1 (c * g0) (c * g1) := by unfold D2 det2; grind
theorem res_4 {f0 f1 f2 f3 : Int} {g : List Int} (hf : LBd 20 [f0, f1, f2, f3, 1]) (hg1 : 1 ≤ g.length) (hgl : g.length ≤ 4) (hg : LBd 3 g) (hg0 : g.getLastD 0 ≠ 0) :
    ResOk [f0, f1, f2, f3, 1] g ∧ resP [f0, f1, f2, f3, 1] g = D4 f0 f1 f2 f3 (g.getD 0 0) (g.getD 1 0) (g.getD 2 0) (g.getD 3 0) := by
  obtain ⟨c, g', rfl, hb, hl, h0, key⟩ := res_gen (f := [f0, f1, f2, f3, 1]) (g := g) rfl (by simp) (by simp) hg1 (by simp; omega) hg hg0
  rw [List.length_map] at hg1 hgl key
  match g', hb, h0, key, hg1, hgl with
  | [g0], hb, h0, key, _, _ =>
    have k := key _ (rr_con (by simp) (by simp) (hb g0 (by simp)))
    refine ⟨k.1, k.2.trans ?_⟩
    show c ^ 4 * g0 ^ 4 = D4 f0 f1 f2 f3 (c * g0) 0 0 0
    rw [d4c f0 f1 f2 f3 g0, h4, Int.mul_zero]
  | [g0, g1], hb, h0, key, _, _ =>
    have k := key _ (rr_52 hf hb h0)
    refine ⟨k.1, k.2.trans ?_⟩
    show c ^ 4 * _ = D4 f0 f1 f2 f3 (c * g0) (c * g1) 0 0
    rw [h4, Int.mul_zero]
  | [g0, g1, g2], hb, h0, key, _, _ =>
    have k := key _ (rr_53 hf hb h0)
    refine ⟨k.1, k.2.trans ?_⟩
    show c ^ 4 * _ = D4 f0 f1 f2 f3 (c * g0) (c * g1) (c * g2) 0
    rw [h4, Int.mul_zero]
  | [g0, g1, g2, g3], hb, h0, key, _, _ =>
    have k := key _ (rr_54 hf hb h0)
    refine ⟨k.1, k.2.trans ?_⟩
    show c ^ 4 * _ = D4 f0 f1 f2 f3 (c * g0) (c * g1) (c * g2) (c * g3)
    rw [h4]
  | [], _, _, _, h, _ => exact absurd h (by simp)
  | _ :: _ :: _ :: _ :: _ :: _, _, _, _, _, h => exact absurd h (by simp)
theorem res_3 {f0 f1 f2 : Int} {g : List Int} (hf : LBd 20 [f0, f1, f2, 1]) (hg1 : 1 ≤ g.length) (hgl : g.length ≤ 3) (hg : LBd 3 g) (hg0 : g.getLastD 0 ≠ 0) :
    ResOk [f0, f1, f2, 1] g ∧ resP [f0, f1, f2, 1] g = -D3 f0 f1 f2 (g.getD 0 0) (g.getD 1 0) (g.getD 2 0) := by
  obtain ⟨c, g', rfl, hb, hl, h0, key⟩ := res_gen (f := [f0, f1, f2, 1]) (g := g) rfl (by simp) (by simp) hg1 (by simp; omega) hg hg0
  rw [List.length_map] at hg1 hgl key
  match g', hb, h0, key, hg1, hgl with
  | [g0], hb, h0, key, _, _ =>
    have k := key _ (rr_con (by simp) (by simp) (hb g0 (by simp)))
    refine ⟨k.1, k.2.trans ?_⟩
    show c ^ 3 * g0 ^ 3 = -D3 f0 f1 f2 (c * g0) 0 0
    rw [d3c f0 f1 f2 g0, Int.mul_neg, h3, Int.mul_zero]
  | [g0, g1], hb, h0, key, _, _ =>
    have k := key _ (rr_42 hf hb h0)
    refine ⟨k.1, k.2.trans ?_⟩
    show c ^ 3 * _ = -D3 f0 f1 f2 (c * g0) (c * g1) 0
    rw [Int.mul_neg, h3, Int.mul_zero]
  | [g0, g1, g2], hb, h0, key, _, _ =>
    have k := key _ (rr_43 hf hb h0)
    refine ⟨k.1, k.2.trans ?_⟩
    show c ^ 3 * _ = -D3 f0 f1 f2 (c * g0) (c * g1) (c * g2)
    rw [Int.mul_neg, h3]
  | [], _, _, _, h, _ => exact absurd h (by simp)
  | _ :: _ :: _ :: _ :: _, _, _, _, _, h => exact absurd h (by simp)
theorem res_2 {f0 f1 : Int} {g : List Int} (hf : LBd 20 [f0, f1, 1]) (hg1 : 1 ≤ g.length) (hgl : g.length ≤ 2) (hg : LBd 3 g) (hg0 : g.getLastD 0 ≠ 0) :
    ResOk [f0, f1, 1] g ∧ resP [f0, f1, 1] g = -D2 f0 f1 (g.getD 0 0) (g.getD 1 0) := by
  obtain ⟨c, g', rfl, hb, hl, h0, key⟩ := res_gen (f := [f0, f1, 1]) (g := g) rfl (by simp) (by simp) hg1 (by simp; omega) hg hg0
  rw [List.length_map] at hg1 hgl key
  match g', hb, h0, key, hg1, hgl with
  | [g0], hb, h0, key, _, _ =>
    have k := key _ (rr_con (by simp) (by simp) (hb g0 (by simp)))
    refine ⟨k.1, k.2.trans ?_⟩
    show c ^ 2 * g0 ^ 2 = -D2 f0 f1 (c * g0) 0
    rw [d2c f0 f1 g0, Int.mul_neg, h2, Int.mul_zero]
  | [g0, g1], hb, h0, key, _, _ =>
    have k := key _ (rr_32 hf hb h0)
    refine ⟨k.1, k.2.trans ?_⟩
    show c ^ 2 * _ = -D2 f0 f1 (c * g0) (c * g1)
    rw [Int.mul_neg, h2]
  | [], _, _, _, h, _ => exact absurd h (by simp)
  | _ :: _ :: _ :: _, _, _, _, _, h => exact absurd h (by simp)
theorem res_1 {f0 : Int} {g : List Int} (hf : LBd 20 [f0, 1]) (hg1 : 1 ≤ g.length) (hgl : g.length ≤ 1) (hg : LBd 3 g) (hg0 : g.getLastD 0 ≠ 0) :
    ResOk [f0, 1] g ∧ resP [f0, 1] g = g.getD 0 0 := by
  obtain ⟨c, g', rfl, hb, hl, h0, key⟩ := res_gen (f := [f0, 1]) (g := g) rfl (by simp) (by simp) hg1 (by simp; omega) hg hg0
  rw [List.length_map] at hg1 hgl key
  match g', hb, h0, key, hg1, hgl with
  | [g0], hb, h0, key, _, _ =>
    have k := key _ (rr_con (by simp) (by simp) (hb g0 (by simp)))
    refine ⟨k.1, k.2.trans ?_⟩
    show c ^ 1 * g0 ^ 1 = c * g0
    rw [pw1, pw1]
  | [], _, _, _, h, _ => exact absurd h (by simp)
  | _ :: _ :: _, _, _, _, _, h => exact absurd h (by simp)
end Mine
end
section
set_option maxRecDepth 100000
set_option maxHeartbeats 8000000
namespace Mine
theorem sqn (x : Int) : 0 ≤ x * x := by
  rcases Int.le_total 0 x with h | h
  · exact Int.mul_nonneg h h
  · exact Int.mul_nonneg_of_nonpos_of_nonpos h h
theorem sqp {x : Int} (h : x ≠ 0) : 0 < x * x := by
  rcases Int.lt_or_lt_of_ne h with h | h
  · exact Int.mul_pos_of_neg_of_neg h h
  · exact Int.mul_pos h h
theorem sq_zero {x : Int} (h : x * x ≤ 0) : x = 0 := by
  by_cases hx : x = 0
  · exact hx
  · have := sqp hx; omega
theorem nsq {e x : Int} (h : e ≤ 0) : e * (x * x) ≤ 0 := Int.mul_nonpos_of_nonpos_of_nonneg h (sqn x)
theorem psq {e x : Int} (h : 0 ≤ e) : 0 ≤ e * (x * x) := Int.mul_nonneg h (sqn x)
theorem psq0 {e x : Int} (h : 0 < e) (hx : e * (x * x) ≤ 0) : x = 0 := by
  by_cases h0 : x = 0
  · exact h0
  · have := Int.mul_pos h (sqp h0); omega
/-- one weight above 0 bears no plane above 0 -/
theorem plane {e1 e2 e3 e4 X1 X2 X3 X4 Y1 Y2 Y3 Y4 A C : Int} (h2 : e2 ≤ 0) (h3 : e3 ≤ 0) (h4 : e4 ≤ 0)
    (hA : e1*(X1*X1) + e2*(X2*X2) + e3*(X3*X3) + e4*(X4*X4) = A) (hC : e1*(Y1*Y1) + e2*(Y2*Y2) + e3*(Y3*Y3) + e4*(Y4*Y4) = C)
    (hP : e1*(X1*Y1) + e2*(X2*Y2) + e3*(X3*Y3) + e4*(X4*Y4) = 0) (a0 : 0 < A) (c0 : 0 < C) : False := by
  have id : (Y1*Y1)*A + (X1*X1)*C = e2*((Y1*X2-X1*Y2)*(Y1*X2-X1*Y2)) + e3*((Y1*X3-X1*Y3)*(Y1*X3-X1*Y3)) + e4*((Y1*X4-X1*Y4)*(Y1*X4-X1*Y4)) + 2*(X1*Y1)*(e1*(X1*Y1) + e2*(X2*Y2) + e3*(X3*Y3) + e4*(X4*Y4)) := by
    rw [← hA, ← hC]; clear hA hC hP a0 c0 h2 h3 h4; grind
  rw [hP, Int.mul_zero] at id
  have k2 := nsq (x := Y1*X2-X1*Y2) h2
  have k3 := nsq (x := Y1*X3-X1*Y3) h3
  have k4 := nsq (x := Y1*X4-X1*Y4) h4
  have ky := Int.mul_nonneg (sqn Y1) (Int.le_of_lt a0)
  have kx := Int.mul_nonneg (sqn X1) (Int.le_of_lt c0)
  have hx : X1 = 0 := by
    refine psq0 (e := C) c0 ?_
    rw [Int.mul_comm]; omega
  subst hx
  have l2 := nsq (x := X2) h2
  have l3 := nsq (x := X3) h3
  have l4 := nsq (x := X4) h4
  rw [Int.zero_mul, Int.mul_zero] at hA
  omega
/-- the squares' sum behind Lagrange: n weights, forms X -/
noncomputable def Q4 (a b c d e f g h i j v0 v1 v2 v3 : Int) : Int := a*v0*v0 + 2*b*v0*v1 + 2*c*v0*v2 + 2*d*v0*v3 + e*v1*v1 + 2*f*v1*v2 + 2*g*v1*v3 + h*v2*v2 + 2*i*v2*v3 + j*v3*v3
theorem ldl4 (a b c d e f g h i j v0 v1 v2 v3 : Int) :
  a * (a*e-b*b) * det3 a b c b e f c f h * Q4 a b c d e f g h i j v0 v1 v2 v3
   = (a*e-b*b) * det3 a b c b e f c f h * ((a*v0+b*v1+c*v2+d*v3)*(a*v0+b*v1+c*v2+d*v3))
   + det3 a b c b e f c f h * (((a*e-b*b)*v1+(a*f-b*c)*v2+(a*g-b*d)*v3)*((a*e-b*b)*v1+(a*f-b*c)*v2+(a*g-b*d)*v3))
   + a * ((det3 a b c b e f c f h*v2 + det3 a b d b e g c f i*v3)*(det3 a b c b e f c f h*v2 + det3 a b d b e g c f i*v3))
   + a * (a*e-b*b) * det4 a b c d b e f g c f h i d g i j * (v3*v3) := by
  unfold Q4 det3 det4; grind
noncomputable def P4 (a b c d e f g h i j v0 v1 v2 v3 u0 u1 u2 u3 : Int) : Int := a*v0*u0 + b*(v0*u1+v1*u0) + c*(v0*u2+v2*u0) + d*(v0*u3+v3*u0) + e*v1*u1 + f*(v1*u2+v2*u1) + g*(v1*u3+v3*u1) + h*v2*u2 + i*(v2*u3+v3*u2) + j*v3*u3
theorem ldl4P (a b c d e f g h i j v0 v1 v2 v3 u0 u1 u2 u3 : Int) :
  a * (a*e-b*b) * det3 a b c b e f c f h * P4 a b c d e f g h i j v0 v1 v2 v3 u0 u1 u2 u3
   = (a*e-b*b) * det3 a b c b e f c f h * ((a*v0+b*v1+c*v2+d*v3)*(a*u0+b*u1+c*u2+d*u3))
   + det3 a b c b e f c f h * (((a*e-b*b)*v1+(a*f-b*c)*v2+(a*g-b*d)*v3)*((a*e-b*b)*u1+(a*f-b*c)*u2+(a*g-b*d)*u3))
   + a * ((det3 a b c b e f c f h*v2 + det3 a b d b e g c f i*v3)*(det3 a b c b e f c f h*u2 + det3 a b d b e g c f i*u3))
   + a * (a*e-b*b) * det4 a b c d b e f g c f h i d g i j * (v3*u3) := by
  unfold P4 det3 det4; grind
theorem Q4_P4 (a b c d e f g h i j v0 v1 v2 v3 : Int) : Q4 a b c d e f g h i j v0 v1 v2 v3 = P4 a b c d e f g h i j v0 v1 v2 v3 v0 v1 v2 v3 := by unfold Q4 P4; grind
theorem Q4_neg (a b c d e f g h i j v0 v1 v2 v3 : Int) : Q4 (-a) (-b) (-c) (-d) (-e) (-f) (-g) (-h) (-i) (-j) v0 v1 v2 v3 = -Q4 a b c d e f g h i j v0 v1 v2 v3 := by unfold Q4; grind
theorem P4_neg (a b c d e f g h i j v0 v1 v2 v3 u0 u1 u2 u3 : Int) : P4 (-a) (-b) (-c) (-d) (-e) (-f) (-g) (-h) (-i) (-j) v0 v1 v2 v3 u0 u1 u2 u3 = -P4 a b c d e f g h i j v0 v1 v2 v3 u0 u1 u2 u3 := by unfold P4; grind
theorem det3_neg (a b c d e f g h i : Int) : det3 (-a) (-b) (-c) (-d) (-e) (-f) (-g) (-h) (-i) = -det3 a b c d e f g h i := by unfold det3; grind
theorem det4_neg (a b c d e f g h i j k l m n o p : Int) : det4 (-a) (-b) (-c) (-d) (-e) (-f) (-g) (-h) (-i) (-j) (-k) (-l) (-m) (-n) (-o) (-p) = det4 a b c d e f g h i j k l m n o p := by unfold det4; grind
theorem zprod {x y : Int} (hx : x ≠ 0) (h : x * y = 0) : y = 0 := (Int.mul_eq_zero.mp h).resolve_left hx
theorem npos {x y : Int} (hx : 0 < x) (h : y ≤ 0) : x * y ≤ 0 := Int.mul_nonpos_of_nonneg_of_nonpos (Int.le_of_lt hx) h
/-- a form whose leading minors are above 0 is above 0 off the origin -/
theorem posd4 {a b c d e f g h i j v0 v1 v2 v3 d2 d3 d4 : Int} (e2 : a*e-b*b = d2) (e3 : det3 a b c b e f c f h = d3) (e4 : det4 a b c d b e f g c f h i d g i j = d4)
    (h1 : 0 < a) (h2 : 0 < d2) (h3 : 0 < d3) (h4 : 0 < d4) (hQ : Q4 a b c d e f g h i j v0 v1 v2 v3 ≤ 0) : v0 = 0 ∧ v1 = 0 ∧ v2 = 0 ∧ v3 = 0 := by
  have k := ldl4 a b c d e f g h i j v0 v1 v2 v3
  rw [e2, e3, e4] at k
  have k0 := npos (Int.mul_pos (Int.mul_pos h1 h2) h3) hQ
  have k1 := psq (x := a*v0+b*v1+c*v2+d*v3) (Int.le_of_lt (Int.mul_pos h2 h3))
  have k2 := psq (x := d2*v1+(a*f-b*c)*v2+(a*g-b*d)*v3) (Int.le_of_lt h3)
  have k3 := psq (x := d3*v2 + det3 a b d b e g c f i*v3) (Int.le_of_lt h1)
  have k4 := psq (x := v3) (Int.le_of_lt (Int.mul_pos (Int.mul_pos h1 h2) h4))
  have z4 : v3 = 0 := psq0 (Int.mul_pos (Int.mul_pos h1 h2) h4) (by omega)
  have z3 := psq0 (x := d3*v2 + det3 a b d b e g c f i*v3) h1 (by omega)
  rw [z4, Int.mul_zero, Int.add_zero] at z3
  have y3 : v2 = 0 := zprod (Int.ne_of_gt h3) z3
  have z2 := psq0 (x := d2*v1+(a*f-b*c)*v2+(a*g-b*d)*v3) h3 (by omega)
  rw [z4, y3, Int.mul_zero, Int.mul_zero, Int.add_zero, Int.add_zero] at z2
  have y2 : v1 = 0 := zprod (Int.ne_of_gt h2) z2
  have z1 := psq0 (x := a*v0+b*v1+c*v2+d*v3) (Int.mul_pos h2 h3) (by omega)
  rw [z4, y3, y2, Int.mul_zero, Int.mul_zero, Int.mul_zero, Int.add_zero, Int.add_zero, Int.add_zero] at z1
  exact ⟨zprod (Int.ne_of_gt h1) z1, y2, y3, z4⟩
theorem negd4 {a b c d e f g h i j v0 v1 v2 v3 d2 d3 d4 : Int} (e2 : a*e-b*b = d2) (e3 : det3 a b c b e f c f h = d3) (e4 : det4 a b c d b e f g c f h i d g i j = d4)
    (h1 : a < 0) (h2 : 0 < d2) (h3 : d3 < 0) (h4 : 0 < d4) (hQ : 0 ≤ Q4 a b c d e f g h i j v0 v1 v2 v3) : v0 = 0 ∧ v1 = 0 ∧ v2 = 0 ∧ v3 = 0 :=
  posd4 (a := -a) (b := -b) (c := -c) (d := -d) (e := -e) (f := -f) (g := -g) (h := -h) (i := -i) (j := -j) (d2 := d2) (d3 := -d3) (d4 := d4) (by rw [Int.neg_mul_neg, Int.neg_mul_neg]; exact e2) (by rw [det3_neg, e3]) (by rw [det4_neg, e4]) (by omega) h2 (by omega) h4 (by rw [Q4_neg]; omega)
noncomputable def ng (x : Int) : Int := if x < 0 then 1 else 0
theorem ng_mul {w k : Int} (hk : 0 < k) : ng (w * k) = ng w := by
  unfold ng
  by_cases h : w < 0
  · rw [if_pos h, if_pos (Int.mul_neg_of_neg_of_pos h hk)]
  · rw [if_neg h, if_neg (by have := Int.mul_nonneg (Int.not_lt.mp h) (Int.le_of_lt hk); omega)]
/-- three weights below 0 bear no plane above 0 -/
theorem plane3 {e1 e2 e3 e4 X1 X2 X3 X4 Y1 Y2 Y3 Y4 A C : Int} (hn : 3 ≤ ng e1 + ng e2 + ng e3 + ng e4)
    (hA : e1*(X1*X1) + e2*(X2*X2) + e3*(X3*X3) + e4*(X4*X4) = A) (hC : e1*(Y1*Y1) + e2*(Y2*Y2) + e3*(Y3*Y3) + e4*(Y4*Y4) = C)
    (hP : e1*(X1*Y1) + e2*(X2*Y2) + e3*(X3*Y3) + e4*(X4*Y4) = 0) (a0 : 0 < A) (c0 : 0 < C) : False := by
  unfold ng at hn
  by_cases h1 : e1 < 0
  · by_cases h2 : e2 < 0
    · by_cases h3 : e3 < 0
      · exact plane (e1 := e4) (e2 := e1) (e3 := e2) (e4 := e3) (X1 := X4) (X2 := X1) (X3 := X2) (X4 := X3) (Y1 := Y4) (Y2 := Y1) (Y3 := Y2) (Y4 := Y3) (by omega) (by omega) (by omega) (by omega) (by omega) (by omega) a0 c0
      · exact plane (e1 := e3) (e2 := e1) (e3 := e2) (e4 := e4) (X1 := X3) (X2 := X1) (X3 := X2) (X4 := X4) (Y1 := Y3) (Y2 := Y1) (Y3 := Y2) (Y4 := Y4) (by omega) (by omega) (by split at hn <;> omega) (by omega) (by omega) (by omega) a0 c0
    · exact plane (e1 := e2) (e2 := e1) (e3 := e3) (e4 := e4) (X1 := X2) (X2 := X1) (X3 := X3) (X4 := X4) (Y1 := Y2) (Y2 := Y1) (Y3 := Y3) (Y4 := Y4) (by omega) (by omega) (by omega) (by omega) (by omega) (by omega) a0 c0
  · exact plane (e1 := e1) (e2 := e2) (e3 := e3) (e4 := e4) (by omega) (by omega) (by omega) hA hC hP a0 c0
end Mine
end
section
set_option maxRecDepth 100000
set_option maxHeartbeats 8000000
namespace Mine
/-- the numbers of signs below 0: what the form bears, n = 4 -/
structure S4 (d1 d2 d3 d4 : Int) : Prop where
  n1 : d1 ≠ 0
  n2 : d2 ≠ 0
  n3 : d3 ≠ 0
  n4 : d4 ≠ 0
noncomputable def ch4 (d1 d2 d3 d4 : Int) : Int := ng d1 + ng (d1*d2) + ng (d2*d3) + ng (d3*d4)
theorem sg {x : Int} (h : x ≠ 0) : x < 0 ∨ 0 < x := by omega
theorem pp {x y : Int} (h : 0 < x) (k : 0 < y) : 0 < x * y := Int.mul_pos h k
theorem nn {x y : Int} (h : x < 0) (k : y < 0) : 0 < x * y := Int.mul_pos_of_neg_of_neg h k
theorem np {x y : Int} (h : x < 0) (k : 0 < y) : x * y < 0 := Int.mul_neg_of_neg_of_pos h k
theorem pn {x y : Int} (h : 0 < x) (k : y < 0) : x * y < 0 := Int.mul_neg_of_pos_of_neg h k
theorem ng_neg {x : Int} (h : x < 0) : ng x = 1 := if_pos h
theorem ng_pos {x : Int} (h : 0 < x) : ng x = 0 := if_neg (by omega)
theorem ng_prod {x y : Int} (hx : x ≠ 0) (hy : y ≠ 0) : (ng (x * y) + ng x + ng y) % 2 = 0 := by
  rcases sg hx with h | h <;> rcases sg hy with k | k
  · rw [ng_neg h, ng_neg k, ng_pos (nn h k)]; rfl
  · rw [ng_neg h, ng_pos k, ng_neg (np h k)]; rfl
  · rw [ng_pos h, ng_neg k, ng_neg (pn h k)]; rfl
  · rw [ng_pos h, ng_pos k, ng_pos (pp h k)]; rfl
theorem ng01 (x : Int) : 0 ≤ ng x ∧ ng x ≤ 1 := by unfold ng; split <;> omega
theorem ng_iff {x : Int} (hx : x ≠ 0) : (ng x = 1 ↔ x < 0) ∧ (ng x = 0 ↔ 0 < x) := by
  unfold ng; split <;> omega
theorem prod_pos {x y : Int} (hx : x ≠ 0) (hy : y ≠ 0) (h : ng (x * y) = 0) : (x < 0 ∧ y < 0) ∨ (0 < x ∧ 0 < y) := by
  rcases sg hx with a | a <;> rcases sg hy with b | b
  · exact .inl ⟨a, b⟩
  · rw [ng_neg (np a b)] at h; omega
  · rw [ng_neg (pn a b)] at h; omega
  · exact .inr ⟨a, b⟩
theorem prod_neg {x y : Int} (hx : x ≠ 0) (hy : y ≠ 0) (h : ng (x * y) = 1) : (x < 0 ∧ 0 < y) ∨ (0 < x ∧ y < 0) := by
  rcases sg hx with a | a <;> rcases sg hy with b | b
  · rw [ng_pos (nn a b)] at h; omega
  · exact .inl ⟨a, b⟩
  · exact .inr ⟨a, b⟩
  · rw [ng_pos (pp a b)] at h; omega
theorem ch4_par {d1 d2 d3 d4 : Int} (s : S4 d1 d2 d3 d4) : (ch4 d1 d2 d3 d4 + ng d4) % 2 = 0 := by
  have a := ng_prod s.n1 s.n2
  have b := ng_prod s.n2 s.n3
  have c := ng_prod s.n3 s.n4
  unfold ch4; omega
theorem ch4_zero {d1 d2 d3 d4 : Int} (s : S4 d1 d2 d3 d4) (h : ch4 d1 d2 d3 d4 = 0) : 0 < d1 ∧ 0 < d2 ∧ 0 < d3 ∧ 0 < d4 := by
  unfold ch4 at h
  have q1 := ng01 d1
  have q2 := ng01 (d1*d2)
  have q3 := ng01 (d2*d3)
  have q4 := ng01 (d3*d4)
  have i1 := (ng_iff s.n1).2.mp (by omega)
  have i2 := prod_pos s.n1 s.n2 (by omega)
  have i3 := prod_pos s.n2 s.n3 (by omega)
  have i4 := prod_pos s.n3 s.n4 (by omega)
  omega
theorem ch4_four {d1 d2 d3 d4 : Int} (s : S4 d1 d2 d3 d4) (h : ch4 d1 d2 d3 d4 = 4) : d1 < 0 ∧ 0 < d2 ∧ d3 < 0 ∧ 0 < d4 := by
  unfold ch4 at h
  have q1 := ng01 d1
  have q2 := ng01 (d1*d2)
  have q3 := ng01 (d2*d3)
  have q4 := ng01 (d3*d4)
  have i1 := (ng_iff s.n1).1.mp (by omega)
  have i2 := prod_neg s.n1 s.n2 (by omega)
  have i3 := prod_neg s.n2 s.n3 (by omega)
  have i4 := prod_neg s.n3 s.n4 (by omega)
  omega
theorem ch4_range (d1 d2 d3 d4 : Int) : 0 ≤ ch4 d1 d2 d3 d4 ∧ ch4 d1 d2 d3 d4 ≤ 4 := by
  unfold ch4
  have q1 := ng01 d1
  have q2 := ng01 (d1*d2)
  have q3 := ng01 (d2*d3)
  have q4 := ng01 (d3*d4)
  omega
section
variable {a b c d e f g h i j d2 d3 d4 : Int}
/-- a quadratic factor: neither above 0 nor below 0 -/
theorem quad4 (e2 : a*e-b*b = d2) (e3 : det3 a b c b e f c f h = d3) (e4 : det4 a b c d b e f g c f h i d g i j = d4) (s : S4 a d2 d3 d4)
    {v1 v2 v3 u2 u3 dl : Int} (hd : 0 < dl) (hQ : Q4 a b c d e f g h i j 2 v1 v2 v3 + dl * Q4 a b c d e f g h i j 0 1 u2 u3 = 0) : ch4 a d2 d3 d4 ≠ 0 ∧ ch4 a d2 d3 d4 ≠ 4 := by
  constructor
  · intro h0
    obtain ⟨p1, p2, p3, p4⟩ := ch4_zero s h0
    have h1 : 0 < Q4 a b c d e f g h i j 0 1 u2 u3 := by
      by_cases hq : Q4 a b c d e f g h i j 0 1 u2 u3 ≤ 0
      · have := (posd4 e2 e3 e4 p1 p2 p3 p4 hq).2.1; omega
      · omega
    have h2 := Int.mul_pos hd h1
    have := (posd4 e2 e3 e4 p1 p2 p3 p4 (v0 := 2) (v1 := v1) (v2 := v2) (v3 := v3) (by omega)).1
    omega
  · intro h0
    obtain ⟨p1, p2, p3, p4⟩ := ch4_four s h0
    have h1 : Q4 a b c d e f g h i j 0 1 u2 u3 < 0 := by
      by_cases hq : 0 ≤ Q4 a b c d e f g h i j 0 1 u2 u3
      · have := (negd4 e2 e3 e4 p1 p2 p3 p4 hq).2.1; omega
      · omega
    have h2 := Int.mul_neg_of_pos_of_neg hd h1
    have := (negd4 e2 e3 e4 p1 p2 p3 p4 (v0 := 2) (v1 := v1) (v2 := v2) (v3 := v3) (by omega)).1
    omega
theorem kk1 (d1 d2 d3 d4 Q A B C D : Int) (k : d1 * d2 * d3 * Q = d2 * d3 * A + d3 * B + d1 * C + d1 * d2 * d4 * D) :
    (d1 * ((d2*d3)*(d2*d3))) * A + (d1 * d2 * (d3*d3)) * B + (d2*d3*(d1*d1)) * C + (d3*d4*((d1*d2)*(d1*d2))) * D = (d1*d2*d3)*(d1*d2*d3) * Q := by
  have e : (d1*d2*d3)*(d1*d2*d3) * Q = (d1*d2*d3) * (d1 * d2 * d3 * Q) := by rw [Int.mul_assoc]
  rw [e, k]; clear k e; grind
/-- three sign changes and two orthogonal vectors above 0: impossible -/
theorem three4 (e2 : a*e-b*b = d2) (e3 : det3 a b c b e f c f h = d3) (e4 : det4 a b c d b e f g c f h i d g i j = d4) (s : S4 a d2 d3 d4)
    {v0 v1 v2 v3 u0 u1 u2 u3 : Int} (hv : 0 < Q4 a b c d e f g h i j v0 v1 v2 v3) (hu : 0 < Q4 a b c d e f g h i j u0 u1 u2 u3) (hP : P4 a b c d e f g h i j v0 v1 v2 v3 u0 u1 u2 u3 = 0) : ¬ 3 ≤ ch4 a d2 d3 d4 := by
  intro h3
  have kv := ldl4P a b c d e f g h i j v0 v1 v2 v3 v0 v1 v2 v3
  have ku := ldl4P a b c d e f g h i j u0 u1 u2 u3 u0 u1 u2 u3
  have kp := ldl4P a b c d e f g h i j v0 v1 v2 v3 u0 u1 u2 u3
  rw [← Q4_P4, e2, e3, e4] at kv ku
  rw [e2, e3, e4] at kp
  have mv := kk1 _ _ _ _ _ _ _ _ _ kv
  have mu := kk1 _ _ _ _ _ _ _ _ _ ku
  have mp := kk1 _ _ _ _ _ _ _ _ _ kp
  rw [hP, Int.mul_zero] at mp
  have hK : 0 < (a*d2*d3)*(a*d2*d3) := sqp (Int.mul_ne_zero (Int.mul_ne_zero s.n1 s.n2) s.n3)
  refine plane3 ?_ mv mu mp (Int.mul_pos hK hv) (Int.mul_pos hK hu)
  unfold ch4 at h3
  rw [ng_mul (sqp (Int.mul_ne_zero s.n2 s.n3)), ng_mul (sqp s.n3), ng_mul (sqp s.n1), ng_mul (sqp (Int.mul_ne_zero s.n1 s.n2))]
  exact h3
theorem ch4_neg (d1 d2 d3 d4 : Int) (s : S4 d1 d2 d3 d4) : ch4 (-d1) d2 (-d3) d4 = 4 - ch4 d1 d2 d3 d4 := by
  unfold ch4
  rw [Int.neg_mul, Int.mul_neg, Int.neg_mul]
  have f : ∀ {x : Int}, x ≠ 0 → ng (-x) = 1 - ng x := fun {x} hx => by unfold ng; split <;> split <;> omega
  rw [f s.n1, f (Int.mul_ne_zero s.n1 s.n2), f (Int.mul_ne_zero s.n2 s.n3), f (Int.mul_ne_zero s.n3 s.n4)]
  omega
theorem one4 (e2 : a*e-b*b = d2) (e3 : det3 a b c b e f c f h = d3) (e4 : det4 a b c d b e f g c f h i d g i j = d4) (s : S4 a d2 d3 d4)
    {v0 v1 v2 v3 u0 u1 u2 u3 : Int} (hv : Q4 a b c d e f g h i j v0 v1 v2 v3 < 0) (hu : Q4 a b c d e f g h i j u0 u1 u2 u3 < 0) (hP : P4 a b c d e f g h i j v0 v1 v2 v3 u0 u1 u2 u3 = 0) : ¬ ch4 a d2 d3 d4 ≤ 1 := by
  intro h1
  have k := three4 (a := -a) (b := -b) (c := -c) (d := -d) (e := -e) (f := -f) (g := -g) (h := -h) (i := -i) (j := -j) (d2 := d2) (d3 := -d3) (d4 := d4) (by rw [Int.neg_mul_neg, Int.neg_mul_neg]; exact e2) (by rw [det3_neg, e3]) (by rw [det4_neg, e4])
    ⟨by have := s.n1; omega, s.n2, by have := s.n3; omega, s.n4⟩ (v0 := v0) (v1 := v1) (v2 := v2) (v3 := v3) (u0 := u0) (u1 := u1) (u2 := u2) (u3 := u3) (by rw [Q4_neg]; omega) (by rw [Q4_neg]; omega) (by rw [P4_neg]; omega)
  rw [ch4_neg a d2 d3 d4 s] at k
  omega
end
end Mine
end
section
set_option maxRecDepth 100000
set_option maxHeartbeats 8000000
namespace Mine
/-- the norm of A + B z, z a root of x^2 + b x + c -/
noncomputable def Nm (b c A B : Int) : Int := A*A - b*(A*B) + c*(B*B)
theorem Nm_pos {b c A B : Int} (hd : 0 < 4*c - b*b) (h : Nm b c A B ≠ 0) : 0 < Nm b c A B := by
  have e : 4 * Nm b c A B = (2*A-b*B)*(2*A-b*B) + (4*c-b*b)*(B*B) := by unfold Nm; clear h hd; grind
  have k1 := sqn (2*A-b*B)
  have k2 := psq (x := B) (Int.le_of_lt hd)
  omega
theorem qpos {b c x : Int} (hd : 0 < 4*c - b*b) : 0 < x*x - b*x + c := by
  have e : 4 * (x*x-b*x+c) = (2*x-b)*(2*x-b) + (4*c-b*b) := by clear hd; grind
  have k1 := sqn (2*x-b)
  omega
noncomputable def sgn (x : Int) : Int := if 0 < x then 1 else if x < 0 then -1 else 0
noncomputable def gv (g0 g1 g2 g3 x : Int) : Int := g0 + g1*x + g2*(x*x) + g3*(x*x*x)
section
variable (f0 f1 f2 f3 g0 g1 g2 g3 : Int)
noncomputable def m1 : Int := f1*g0-f0*g1
noncomputable def m2 : Int := (f1*g0-f0*g1)*(f2*g1-f1*g2+(f3*g0-f0*g3)) - (f2*g0-f0*g2)*(f2*g0-f0*g2)
noncomputable def m3 : Int := det3 (f1*g0-f0*g1) (f2*g0-f0*g2) (f3*g0-f0*g3) (f2*g0-f0*g2) (f2*g1-f1*g2+(f3*g0-f0*g3)) (f3*g1-f1*g3+g0) (f3*g0-f0*g3) (f3*g1-f1*g3+g0) (f3*g2-f2*g3+g1)
noncomputable def BQ (v0 v1 v2 v3 : Int) : Int := Q4 (f1*g0-f0*g1) (f2*g0-f0*g2) (f3*g0-f0*g3) g0 (f2*g1-f1*g2+(f3*g0-f0*g3)) (f3*g1-f1*g3+g0) g1 (f3*g2-f2*g3+g1) g2 g3 v0 v1 v2 v3
noncomputable def BP (v0 v1 v2 v3 u0 u1 u2 u3 : Int) : Int := P4 (f1*g0-f0*g1) (f2*g0-f0*g2) (f3*g0-f0*g3) g0 (f2*g1-f1*g2+(f3*g0-f0*g3)) (f3*g1-f1*g3+g0) g1 (f3*g2-f2*g3+g1) g2 g3 v0 v1 v2 v3 u0 u1 u2 u3
end
section
variable (b c u t a1 a2 g0 g1 g2 g3 : Int)
theorem dn4 : D4 (c*t) (c*u+b*t) (c+t+b*u) (b+u) g0 g1 g2 g3 = Nm b c (g0-c*g2+b*c*g3) (g1-b*g2+(b*b-c)*g3) * Nm u t (g0-t*g2+u*t*g3) (g1-u*g2+(u*u-t)*g3) := by
  unfold D4 det4 Nm; grind
theorem bq4 : BQ (c*t) (c*u+b*t) (c+t+b*u) (b+u) g0 g1 g2 g3 2 (-b) (b*b-2*c) (3*b*c-b*b*b) + (4*c-b*b) * BQ (c*t) (c*u+b*t) (c+t+b*u) (b+u) g0 g1 g2 g3 0 1 (-b) (b*b-c) = 0 := by
  unfold BQ Q4; grind
theorem nmlin : Nm (a1+a2) (a1*a2) (g0-a1*a2*g2+(a1+a2)*(a1*a2)*g3) (g1-(a1+a2)*g2+((a1+a2)*(a1+a2)-a1*a2)*g3) = gv g0 g1 g2 g3 (-a1) * gv g0 g1 g2 g3 (-a2) := by
  unfold Nm gv; grind
theorem qv4 : BQ (c*(a1*a2)) (c*(a1+a2)+b*(a1*a2)) (c+a1*a2+b*(a1+a2)) (b+(a1+a2)) g0 g1 g2 g3 1 (-a1) (a1*a1) (-(a1*a1*a1)) = (gv g0 g1 g2 g3 (-a1) * (a2-a1)) * (a1*a1-b*a1+c) := by
  unfold BQ Q4 gv; grind
theorem qv4' : BQ (c*(a1*a2)) (c*(a1+a2)+b*(a1*a2)) (c+a1*a2+b*(a1+a2)) (b+(a1+a2)) g0 g1 g2 g3 1 (-a2) (a2*a2) (-(a2*a2*a2)) = (gv g0 g1 g2 g3 (-a2) * (a1-a2)) * (a2*a2-b*a2+c) := by
  unfold BQ Q4 gv; grind
theorem pv4 : BP (c*(a1*a2)) (c*(a1+a2)+b*(a1*a2)) (c+a1*a2+b*(a1+a2)) (b+(a1+a2)) g0 g1 g2 g3 1 (-a1) (a1*a1) (-(a1*a1*a1)) 1 (-a2) (a2*a2) (-(a2*a2*a2)) = 0 := by
  unfold BP P4; grind
end
end Mine
end
section
set_option maxRecDepth 100000
set_option maxHeartbeats 8000000
namespace Mine
theorem sgn_pos {x : Int} (h : 0 < x) : sgn x = 1 := if_pos h
theorem sgn_neg {x : Int} (h : x < 0) : sgn x = -1 := by unfold sgn; rw [if_neg (by omega), if_pos h]
theorem sgn_zero : sgn 0 = 0 := rfl
theorem sgn_mulp {x k : Int} (hk : 0 < k) : sgn (x * k) = sgn x := by
  rcases Int.lt_trichotomy x 0 with h | h | h
  · rw [sgn_neg h, sgn_neg (Int.mul_neg_of_neg_of_pos h hk)]
  · rw [h, Int.zero_mul]
  · rw [sgn_pos h, sgn_pos (Int.mul_pos h hk)]
theorem ne_left {x y : Int} (h : x * y ≠ 0) : x ≠ 0 := fun e => h (by rw [e, Int.zero_mul])
theorem ne_right {x y : Int} (h : x * y ≠ 0) : y ≠ 0 := fun e => h (by rw [e, Int.mul_zero])
theorem s4_mk {f0 f1 f2 f3 g0 g1 g2 g3 : Int} (h1 : m1 f0 f1 g0 g1 ≠ 0) (h2 : m2 f0 f1 f2 f3 g0 g1 g2 g3 ≠ 0) (h3 : m3 f0 f1 f2 f3 g0 g1 g2 g3 ≠ 0) (h4 : D4 f0 f1 f2 f3 g0 g1 g2 g3 ≠ 0) : S4 (m1 f0 f1 g0 g1) (m2 f0 f1 f2 f3 g0 g1 g2 g3) (m3 f0 f1 f2 f3 g0 g1 g2 g3) (D4 f0 f1 f2 f3 g0 g1 g2 g3) := ⟨h1, h2, h3, h4⟩
noncomputable abbrev c4 (f0 f1 f2 f3 g0 g1 g2 g3 : Int) : Int := ch4 (m1 f0 f1 g0 g1) (m2 f0 f1 f2 f3 g0 g1 g2 g3) (m3 f0 f1 f2 f3 g0 g1 g2 g3) (D4 f0 f1 f2 f3 g0 g1 g2 g3)
/-- n = 4: a quadratic factor: the changes are neither 0 nor 4, and their parity -/
theorem chq {b c u t g0 g1 g2 g3 : Int} (hd : 0 < 4*c - b*b)
    (s : S4 (m1 (c*t) (c*u+b*t) g0 g1) (m2 (c*t) (c*u+b*t) (c+t+b*u) (b+u) g0 g1 g2 g3) (m3 (c*t) (c*u+b*t) (c+t+b*u) (b+u) g0 g1 g2 g3) (D4 (c*t) (c*u+b*t) (c+t+b*u) (b+u) g0 g1 g2 g3)) :
    c4 (c*t) (c*u+b*t) (c+t+b*u) (b+u) g0 g1 g2 g3 ≠ 0 ∧ c4 (c*t) (c*u+b*t) (c+t+b*u) (b+u) g0 g1 g2 g3 ≠ 4 :=
  quad4 rfl rfl rfl s hd (bq4 b c u t g0 g1 g2 g3)
theorem idx_qq {b c u t g0 g1 g2 g3 : Int} (hd : 0 < 4*c - b*b) (hd2 : 0 < 4*t - u*u)
    (s : S4 (m1 (c*t) (c*u+b*t) g0 g1) (m2 (c*t) (c*u+b*t) (c+t+b*u) (b+u) g0 g1 g2 g3) (m3 (c*t) (c*u+b*t) (c+t+b*u) (b+u) g0 g1 g2 g3) (D4 (c*t) (c*u+b*t) (c+t+b*u) (b+u) g0 g1 g2 g3)) :
    c4 (c*t) (c*u+b*t) (c+t+b*u) (b+u) g0 g1 g2 g3 = 2 := by
  have k := chq hd s
  have par := ch4_par s
  have r := ch4_range (m1 (c*t) (c*u+b*t) g0 g1) (m2 (c*t) (c*u+b*t) (c+t+b*u) (b+u) g0 g1 g2 g3) (m3 (c*t) (c*u+b*t) (c+t+b*u) (b+u) g0 g1 g2 g3) (D4 (c*t) (c*u+b*t) (c+t+b*u) (b+u) g0 g1 g2 g3)
  have h4 := s.n4
  have e := dn4 b c u t g0 g1 g2 g3
  rw [e] at h4
  have p : 0 < D4 (c*t) (c*u+b*t) (c+t+b*u) (b+u) g0 g1 g2 g3 := by
    rw [e]; exact Int.mul_pos (Nm_pos hd (ne_left h4)) (Nm_pos hd2 (ne_right h4))
  rw [ng_pos p] at par
  unfold c4 at k ⊢
  omega
theorem sprod (G H a b : Int) : G * (b-a) * (H * (a-b)) = -(G * H * ((a-b)*(a-b))) := by grind
theorem idx_comb {C dd N G1 G2 a1 a2 : Int} (k : C ≠ 0 ∧ C ≠ 4) (par : (C + ng dd) % 2 = 0) (r : 0 ≤ C ∧ C ≤ 4) (e : dd = N * (G1 * G2)) (hN : 0 < N) (hG : G1 * G2 ≠ 0) (hG1 : G1 ≠ 0) (hG2 : G2 ≠ 0)
    (T : 0 < G1 * (a2-a1) → 0 < G2 * (a1-a2) → ¬ 3 ≤ C) (heq : a1 = a2 → G1 = G2) (O : G1 * (a2-a1) < 0 → G2 * (a1-a2) < 0 → ¬ C ≤ 1) : 2 * C = 4 - (sgn (G1 * (a2-a1)) + sgn (G2 * (a1-a2))) := by
  have dpos : 0 < G1 * G2 → ng dd = 0 := fun h => by rw [e]; exact ng_pos (Int.mul_pos hN h)
  have dneg : G1 * G2 < 0 → ng dd = 1 := fun h => by rw [e]; exact ng_neg (Int.mul_neg_of_pos_of_neg hN h)
  by_cases ha : a1 = a2
  · subst ha
    rw [Int.sub_self, Int.mul_zero, Int.mul_zero] at T O ⊢
    rw [sgn_zero]
    have g := heq rfl
    subst g
    have d := dpos (sqp hG1)
    omega
  · have hsq : 0 < (a1-a2)*(a1-a2) := sqp (by omega)
    have key : G1 * (a2-a1) * (G2 * (a1-a2)) = -(G1 * G2 * ((a1-a2)*(a1-a2))) := sprod _ _ _ _
    have n1 : G1 * (a2-a1) ≠ 0 := Int.mul_ne_zero hG1 (by omega)
    have n2 : G2 * (a1-a2) ≠ 0 := Int.mul_ne_zero hG2 (by omega)
    have gpos : 0 < G1 * G2 → G1 * (a2-a1) * (G2 * (a1-a2)) < 0 := fun h => by have := Int.mul_pos h hsq; omega
    have gneg : G1 * G2 < 0 → 0 < G1 * (a2-a1) * (G2 * (a1-a2)) := fun h => by have := Int.mul_neg_of_neg_of_pos h hsq; omega
    clear key
    generalize G1 * (a2-a1) = S1 at *
    generalize G2 * (a1-a2) = S2 at *
    rcases sg n1 with x1 | x1 <;> rcases sg n2 with x2 | x2
    · have z := nn x1 x2
      have o := O x1 x2
      have d := dneg ((sg hG).resolve_right fun h => by have := gpos h; omega)
      rw [sgn_neg x1, sgn_neg x2]; omega
    · have z := np x1 x2
      have d := dpos ((sg hG).resolve_left fun h => by have := gneg h; omega)
      rw [sgn_neg x1, sgn_pos x2]; omega
    · have z := pn x1 x2
      have d := dpos ((sg hG).resolve_left fun h => by have := gneg h; omega)
      rw [sgn_pos x1, sgn_neg x2]; omega
    · have z := pp x1 x2
      have o := T x1 x2
      have d := dneg ((sg hG).resolve_right fun h => by have := gpos h; omega)
      rw [sgn_pos x1, sgn_pos x2]; omega
theorem idx_ll {b c a1 a2 g0 g1 g2 g3 : Int} (hd : 0 < 4*c - b*b)
    (s : S4 (m1 (c*(a1*a2)) (c*(a1+a2)+b*(a1*a2)) g0 g1) (m2 (c*(a1*a2)) (c*(a1+a2)+b*(a1*a2)) (c+a1*a2+b*(a1+a2)) (b+(a1+a2)) g0 g1 g2 g3) (m3 (c*(a1*a2)) (c*(a1+a2)+b*(a1*a2)) (c+a1*a2+b*(a1+a2)) (b+(a1+a2)) g0 g1 g2 g3) (D4 (c*(a1*a2)) (c*(a1+a2)+b*(a1*a2)) (c+a1*a2+b*(a1+a2)) (b+(a1+a2)) g0 g1 g2 g3)) :
    2 * c4 (c*(a1*a2)) (c*(a1+a2)+b*(a1*a2)) (c+a1*a2+b*(a1+a2)) (b+(a1+a2)) g0 g1 g2 g3 = 4 - (sgn (gv g0 g1 g2 g3 (-a1) * (a2-a1)) + sgn (gv g0 g1 g2 g3 (-a2) * (a1-a2))) := by
  have k := chq hd s
  have par := ch4_par s
  have r := ch4_range (m1 (c*(a1*a2)) (c*(a1+a2)+b*(a1*a2)) g0 g1) (m2 (c*(a1*a2)) (c*(a1+a2)+b*(a1*a2)) (c+a1*a2+b*(a1+a2)) (b+(a1+a2)) g0 g1 g2 g3) (m3 (c*(a1*a2)) (c*(a1+a2)+b*(a1*a2)) (c+a1*a2+b*(a1+a2)) (b+(a1+a2)) g0 g1 g2 g3) (D4 (c*(a1*a2)) (c*(a1+a2)+b*(a1*a2)) (c+a1*a2+b*(a1+a2)) (b+(a1+a2)) g0 g1 g2 g3)
  have h4 := s.n4
  have e := dn4 b c (a1+a2) (a1*a2) g0 g1 g2 g3
  rw [nmlin] at e
  rw [e] at h4
  have hN := Nm_pos hd (ne_left h4)
  have hG := ne_right h4
  have hG1 := ne_left hG
  have hG2 := ne_right hG
  have q1 := qpos (x := a1) hd
  have q2 := qpos (x := a2) hd
  have v1 := qv4 b c a1 a2 g0 g1 g2 g3
  have v2 := qv4' b c a1 a2 g0 g1 g2 g3
  have pv := pv4 b c a1 a2 g0 g1 g2 g3
  unfold c4 at k ⊢
  have T : 0 < gv g0 g1 g2 g3 (-a1) * (a2-a1) → 0 < gv g0 g1 g2 g3 (-a2) * (a1-a2) → ¬ 3 ≤ ch4 (m1 (c*(a1*a2)) (c*(a1+a2)+b*(a1*a2)) g0 g1) (m2 (c*(a1*a2)) (c*(a1+a2)+b*(a1*a2)) (c+a1*a2+b*(a1+a2)) (b+(a1+a2)) g0 g1 g2 g3) (m3 (c*(a1*a2)) (c*(a1+a2)+b*(a1*a2)) (c+a1*a2+b*(a1+a2)) (b+(a1+a2)) g0 g1 g2 g3) (D4 (c*(a1*a2)) (c*(a1+a2)+b*(a1*a2)) (c+a1*a2+b*(a1+a2)) (b+(a1+a2)) g0 g1 g2 g3) := fun x y => three4 rfl rfl rfl s (lt_of_lt_of_eq (Int.mul_pos x q1) v1.symm) (lt_of_lt_of_eq (Int.mul_pos y q2) v2.symm) pv
  have O : gv g0 g1 g2 g3 (-a1) * (a2-a1) < 0 → gv g0 g1 g2 g3 (-a2) * (a1-a2) < 0 → ¬ ch4 (m1 (c*(a1*a2)) (c*(a1+a2)+b*(a1*a2)) g0 g1) (m2 (c*(a1*a2)) (c*(a1+a2)+b*(a1*a2)) (c+a1*a2+b*(a1+a2)) (b+(a1+a2)) g0 g1 g2 g3) (m3 (c*(a1*a2)) (c*(a1+a2)+b*(a1*a2)) (c+a1*a2+b*(a1+a2)) (b+(a1+a2)) g0 g1 g2 g3) (D4 (c*(a1*a2)) (c*(a1+a2)+b*(a1*a2)) (c+a1*a2+b*(a1+a2)) (b+(a1+a2)) g0 g1 g2 g3) ≤ 1 := fun x y => one4 rfl rfl rfl s (lt_of_eq_of_lt v1 (Int.mul_neg_of_neg_of_pos x q1)) (lt_of_eq_of_lt v2 (Int.mul_neg_of_neg_of_pos y q2)) pv
  have heq : a1 = a2 → gv g0 g1 g2 g3 (-a1) = gv g0 g1 g2 g3 (-a2) := fun h => by rw [h]
  clear v1 v2 pv s h4
  generalize ch4 (m1 (c*(a1*a2)) (c*(a1+a2)+b*(a1*a2)) g0 g1) (m2 (c*(a1*a2)) (c*(a1+a2)+b*(a1*a2)) (c+a1*a2+b*(a1+a2)) (b+(a1+a2)) g0 g1 g2 g3) (m3 (c*(a1*a2)) (c*(a1+a2)+b*(a1*a2)) (c+a1*a2+b*(a1+a2)) (b+(a1+a2)) g0 g1 g2 g3) (D4 (c*(a1*a2)) (c*(a1+a2)+b*(a1*a2)) (c+a1*a2+b*(a1+a2)) (b+(a1+a2)) g0 g1 g2 g3) = C at *
  generalize D4 (c*(a1*a2)) (c*(a1+a2)+b*(a1*a2)) (c+a1*a2+b*(a1+a2)) (b+(a1+a2)) g0 g1 g2 g3 = dd at *
  generalize Nm b c (g0-c*g2+b*c*g3) (g1-b*g2+(b*b-c)*g3) = N at *
  generalize gv g0 g1 g2 g3 (-a1) = G1 at *
  generalize gv g0 g1 g2 g3 (-a2) = G2 at *
  exact idx_comb k par r e hN hG hG1 hG2 T heq O
end Mine
end
section
set_option maxRecDepth 100000
set_option maxHeartbeats 8000000
namespace Mine
noncomputable def ch3 (d1 d2 d3 : Int) : Int := ng d1 + ng (d1*d2) + ng (d2*d3)
theorem ch43p {d1 d2 d3 : Int} (h3 : d3 ≠ 0) : ch4 d1 d2 d3 (d3*1) = ch3 d1 d2 d3 := by
  unfold ch4 ch3
  rw [Int.mul_one, ng_pos (sqp h3)]; omega
theorem ch43n {d1 d2 d3 : Int} (h3 : d3 ≠ 0) : ch4 d1 d2 d3 (d3*(-1)) = ch3 d1 d2 d3 + 1 := by
  unfold ch4 ch3
  have e : d3 * (d3 * (-1)) = -(d3*d3) := by rw [Int.mul_neg, Int.mul_one, Int.mul_neg]
  have := sqp h3
  rw [e, ng_neg (x := -(d3*d3)) (by omega)]
theorem det4_ext (a b c e f h j : Int) : det4 a b c 0 b e f 0 c f h 0 0 0 0 j = det3 a b c b e f c f h * j := by unfold det4 det3; grind
structure S3 (d1 d2 d3 : Int) : Prop where
  n1 : d1 ≠ 0
  n2 : d2 ≠ 0
  n3 : d3 ≠ 0
theorem S3.ext {d1 d2 d3 j : Int} (s : S3 d1 d2 d3) (hj : j ≠ 0) : S4 d1 d2 d3 (d3*j) := ⟨s.n1, s.n2, s.n3, Int.mul_ne_zero s.n3 hj⟩
theorem ch3_par {d1 d2 d3 : Int} (s : S3 d1 d2 d3) : (ch3 d1 d2 d3 + ng d3) % 2 = 0 := by
  have a := ng_prod s.n1 s.n2
  have b := ng_prod s.n2 s.n3
  unfold ch3; omega
theorem ch3_range (d1 d2 d3 : Int) : 0 ≤ ch3 d1 d2 d3 ∧ ch3 d1 d2 d3 ≤ 3 := by
  unfold ch3
  have q1 := ng01 d1
  have q2 := ng01 (d1*d2)
  have q3 := ng01 (d2*d3)
  omega
noncomputable def Q3 (a b c e f h v0 v1 v2 : Int) : Int := a*v0*v0 + 2*b*v0*v1 + 2*c*v0*v2 + e*v1*v1 + 2*f*v1*v2 + h*v2*v2
noncomputable def P3 (a b c e f h v0 v1 v2 u0 u1 u2 : Int) : Int := a*v0*u0 + b*(v0*u1+v1*u0) + c*(v0*u2+v2*u0) + e*v1*u1 + f*(v1*u2+v2*u1) + h*v2*u2
theorem Q43 (a b c e f h j v0 v1 v2 : Int) : Q4 a b c 0 e f 0 h 0 j v0 v1 v2 0 = Q3 a b c e f h v0 v1 v2 := by unfold Q4 Q3; grind
theorem P43' (a b c e f h j v0 v1 v2 u0 u1 u2 : Int) : P4 a b c 0 e f 0 h 0 j v0 v1 v2 0 u0 u1 u2 0 = P3 a b c e f h v0 v1 v2 u0 u1 u2 := by unfold P4 P3; grind
section
variable {a b c e f h d2 d3 : Int}
theorem quad3 (e2 : a*e-b*b = d2) (e3 : det3 a b c b e f c f h = d3) (s : S3 a d2 d3) {v1 v2 u2 dl : Int} (hd : 0 < dl) (hQ : Q3 a b c e f h 2 v1 v2 + dl * Q3 a b c e f h 0 1 u2 = 0) : ch3 a d2 d3 ≠ 0 ∧ ch3 a d2 d3 ≠ 3 := by
  have k1 := (quad4 (d := 0) (g := 0) (i := 0) (j := 1) (v3 := 0) (u3 := 0) e2 e3 ((det4_ext a b c e f h 1).trans (by rw [e3])) (s.ext (by decide)) hd (by rw [Q43, Q43]; exact hQ)).1
  have k2 := (quad4 (d := 0) (g := 0) (i := 0) (j := -1) (v3 := 0) (u3 := 0) e2 e3 ((det4_ext a b c e f h (-1)).trans (by rw [e3])) (s.ext (by decide)) hd (by rw [Q43, Q43]; exact hQ)).2
  rw [ch43p s.n3] at k1
  rw [ch43n s.n3] at k2
  omega
theorem three3 (e2 : a*e-b*b = d2) (e3 : det3 a b c b e f c f h = d3) (s : S3 a d2 d3) {v0 v1 v2 u0 u1 u2 : Int} (hv : 0 < Q3 a b c e f h v0 v1 v2) (hu : 0 < Q3 a b c e f h u0 u1 u2) (hP : P3 a b c e f h v0 v1 v2 u0 u1 u2 = 0) : ¬ 2 ≤ ch3 a d2 d3 := by
  have k := three4 (d := 0) (g := 0) (i := 0) (j := -1) (v3 := 0) (u3 := 0) e2 e3 ((det4_ext a b c e f h (-1)).trans (by rw [e3])) (s.ext (by decide)) (v0 := v0) (v1 := v1) (v2 := v2) (u0 := u0) (u1 := u1) (u2 := u2) (by rw [Q43]; exact hv) (by rw [Q43]; exact hu) (by rw [P43']; exact hP)
  rw [ch43n s.n3] at k
  omega
theorem one3 (e2 : a*e-b*b = d2) (e3 : det3 a b c b e f c f h = d3) (s : S3 a d2 d3) {v0 v1 v2 u0 u1 u2 : Int} (hv : Q3 a b c e f h v0 v1 v2 < 0) (hu : Q3 a b c e f h u0 u1 u2 < 0) (hP : P3 a b c e f h v0 v1 v2 u0 u1 u2 = 0) : ¬ ch3 a d2 d3 ≤ 1 := by
  have k := one4 (d := 0) (g := 0) (i := 0) (j := 1) (v3 := 0) (u3 := 0) e2 e3 ((det4_ext a b c e f h 1).trans (by rw [e3])) (s.ext (by decide)) (v0 := v0) (v1 := v1) (v2 := v2) (u0 := u0) (u1 := u1) (u2 := u2) (by rw [Q43]; exact hv) (by rw [Q43]; exact hu) (by rw [P43']; exact hP)
  rw [ch43p s.n3] at k
  omega
/-- a vector at which the form is not above 0 -/
theorem notpos3 (e2 : a*e-b*b = d2) (e3 : det3 a b c b e f c f h = d3) (s : S3 a d2 d3) {v0 v1 v2 : Int} (h0 : v0 ≠ 0) (hv : Q3 a b c e f h v0 v1 v2 ≤ 0) : ch3 a d2 d3 ≠ 0 := by
  intro hc
  rw [← ch43p s.n3] at hc
  obtain ⟨p1, p2, p3, p4⟩ := ch4_zero (s.ext (by decide)) hc
  exact h0 (posd4 (d := 0) (g := 0) (i := 0) (j := 1) (v3 := 0) e2 e3 ((det4_ext a b c e f h 1).trans (by rw [e3])) p1 p2 p3 p4 (by rw [Q43]; exact hv)).1
theorem notneg3 (e2 : a*e-b*b = d2) (e3 : det3 a b c b e f c f h = d3) (s : S3 a d2 d3) {v0 v1 v2 : Int} (h0 : v0 ≠ 0) (hv : 0 ≤ Q3 a b c e f h v0 v1 v2) : ch3 a d2 d3 ≠ 3 := by
  intro hc
  have hc2 : ch4 a d2 d3 (d3*(-1)) = 4 := by rw [ch43n s.n3, hc]; rfl
  obtain ⟨p1, p2, p3, p4⟩ := ch4_four (s.ext (by decide)) hc2
  exact h0 (negd4 (d := 0) (g := 0) (i := 0) (j := -1) (v3 := 0) e2 e3 ((det4_ext a b c e f h (-1)).trans (by rw [e3])) p1 p2 p3 p4 (by rw [Q43]; exact hv)).1
end
/-- n = 2 -/
noncomputable def ch2 (d1 d2 : Int) : Int := ng d1 + ng (d1*d2)
theorem det3_ext (a b e h : Int) : det3 a b 0 b e 0 0 0 h = (a*e-b*b)*h := by unfold det3; grind
structure S2 (d1 d2 : Int) : Prop where
  n1 : d1 ≠ 0
  n2 : d2 ≠ 0
theorem ch2_par {d1 d2 : Int} (s : S2 d1 d2) : (ch2 d1 d2 + ng d2) % 2 = 0 := by
  have a := ng_prod s.n1 s.n2
  unfold ch2; omega
theorem ch2_range (d1 d2 : Int) : 0 ≤ ch2 d1 d2 ∧ ch2 d1 d2 ≤ 2 := by
  unfold ch2
  have q1 := ng01 d1
  have q2 := ng01 (d1*d2)
  omega
noncomputable def Q2 (a b e v0 v1 : Int) : Int := a*v0*v0 + 2*b*v0*v1 + e*v1*v1
theorem Q32 (a b e h v0 v1 : Int) : Q3 a b 0 e 0 h v0 v1 0 = Q2 a b e v0 v1 := by unfold Q3 Q2; grind
theorem ch32p {d1 d2 : Int} (h2 : d2 ≠ 0) : ch3 d1 d2 (d2*1) = ch2 d1 d2 := by
  unfold ch3 ch2
  rw [Int.mul_one, ng_pos (sqp h2)]; omega
theorem ch32n {d1 d2 : Int} (h2 : d2 ≠ 0) : ch3 d1 d2 (d2*(-1)) = ch2 d1 d2 + 1 := by
  unfold ch3 ch2
  have e : d2 * (d2 * (-1)) = -(d2*d2) := by rw [Int.mul_neg, Int.mul_one, Int.mul_neg]
  have := sqp h2
  rw [e, ng_neg (x := -(d2*d2)) (by omega)]
theorem notpos2 {a b e d2 : Int} (e2 : a*e-b*b = d2) (s : S2 a d2) {v0 v1 : Int} (h0 : v0 ≠ 0) (hv : Q2 a b e v0 v1 ≤ 0) : ch2 a d2 ≠ 0 := by
  have k := notpos3 (c := 0) (f := 0) (h := 1) (d3 := d2*1) e2 ((det3_ext a b e 1).trans (by rw [e2])) ⟨s.n1, s.n2, Int.mul_ne_zero s.n2 (by decide)⟩ (v2 := 0) h0 (by rw [Q32]; exact hv)
  rw [ch32p s.n2] at k; exact k
theorem notneg2 {a b e d2 : Int} (e2 : a*e-b*b = d2) (s : S2 a d2) {v0 v1 : Int} (h0 : v0 ≠ 0) (hv : 0 ≤ Q2 a b e v0 v1) : ch2 a d2 ≠ 2 := by
  have k := notneg3 (c := 0) (f := 0) (h := -1) (d3 := d2*(-1)) e2 ((det3_ext a b e (-1)).trans (by rw [e2])) ⟨s.n1, s.n2, Int.mul_ne_zero s.n2 (by decide)⟩ (v2 := 0) h0 (by rw [Q32]; exact hv)
  rw [ch32n s.n2] at k; omega
end Mine
end
section
set_option maxRecDepth 100000
set_option maxHeartbeats 8000000
namespace Mine
section
variable (f0 f1 f2 g0 g1 g2 : Int)
noncomputable def tm2 : Int := (f1*g0-f0*g1)*(f2*g1-f1*g2+g0) - (f2*g0-f0*g2)*(f2*g0-f0*g2)
noncomputable def T3 (v0 v1 v2 : Int) : Int := Q3 (f1*g0-f0*g1) (f2*g0-f0*g2) g0 (f2*g1-f1*g2+g0) g1 g2 v0 v1 v2
noncomputable def TP (v0 v1 v2 u0 u1 u2 : Int) : Int := P3 (f1*g0-f0*g1) (f2*g0-f0*g2) g0 (f2*g1-f1*g2+g0) g1 g2 v0 v1 v2 u0 u1 u2
end
noncomputable abbrev c3 (f0 f1 f2 g0 g1 g2 : Int) : Int := ch3 (m1 f0 f1 g0 g1) (tm2 f0 f1 f2 g0 g1 g2) (D3 f0 f1 f2 g0 g1 g2)
section
variable (a1 a2 a3 b c g0 g1 g2 : Int)
theorem dn3 : D3 (a1*c) (c+a1*b) (b+a1) g0 g1 g2 = -(gv g0 g1 g2 0 (-a1) * Nm b c (g0-c*g2) (g1-b*g2)) := by unfold D3 det3 Nm gv; grind
theorem bq3 : T3 (a1*c) (c+a1*b) (b+a1) g0 g1 g2 2 (-b) (b*b-2*c) + (4*c-b*b) * T3 (a1*c) (c+a1*b) (b+a1) g0 g1 g2 0 1 (-b) = 0 := by unfold T3 Q3; grind
theorem nmlin3 : Nm (a2+a3) (a2*a3) (g0-a2*a3*g2) (g1-(a2+a3)*g2) = gv g0 g1 g2 0 (-a2) * gv g0 g1 g2 0 (-a3) := by unfold Nm gv; grind
theorem qv3 : T3 (a1*c) (c+a1*b) (b+a1) g0 g1 g2 1 (-a1) (a1*a1) = gv g0 g1 g2 0 (-a1) * (a1*a1-b*a1+c) := by unfold T3 Q3 gv; grind
theorem qv3' : T3 (a1*(a2*a3)) (a2*a3+a1*(a2+a3)) (a2+a3+a1) g0 g1 g2 1 (-a2) (a2*a2) = gv g0 g1 g2 0 (-a2) * ((a1-a2)*(a3-a2)) := by unfold T3 Q3 gv; grind
theorem qv3'' : T3 (a1*(a2*a3)) (a2*a3+a1*(a2+a3)) (a2+a3+a1) g0 g1 g2 1 (-a3) (a3*a3) = gv g0 g1 g2 0 (-a3) * ((a1-a3)*(a2-a3)) := by unfold T3 Q3 gv; grind
theorem pv3a : TP (a1*(a2*a3)) (a2*a3+a1*(a2+a3)) (a2+a3+a1) g0 g1 g2 1 (-a1) (a1*a1) 1 (-a2) (a2*a2) = 0 := by unfold TP P3; grind
theorem pv3b : TP (a1*(a2*a3)) (a2*a3+a1*(a2+a3)) (a2+a3+a1) g0 g1 g2 1 (-a1) (a1*a1) 1 (-a3) (a3*a3) = 0 := by unfold TP P3; grind
theorem pv3c : TP (a1*(a2*a3)) (a2*a3+a1*(a2+a3)) (a2+a3+a1) g0 g1 g2 1 (-a2) (a2*a2) 1 (-a3) (a3*a3) = 0 := by unfold TP P3; grind
end
/-- n = 3, a line and a pair without real roots -/
theorem idx_lq {a1 b c g0 g1 g2 : Int} (hd : 0 < 4*c - b*b) (s : S3 (m1 (a1*c) (c+a1*b) g0 g1) (tm2 (a1*c) (c+a1*b) (b+a1) g0 g1 g2) (D3 (a1*c) (c+a1*b) (b+a1) g0 g1 g2)) :
    2 * c3 (a1*c) (c+a1*b) (b+a1) g0 g1 g2 = 3 - sgn (gv g0 g1 g2 0 (-a1)) ∧ c3 (a1*c) (c+a1*b) (b+a1) g0 g1 g2 ≠ 0 := by
  have k := quad3 rfl rfl s hd (bq3 a1 b c g0 g1 g2)
  have par := ch3_par s
  have r := ch3_range (m1 (a1*c) (c+a1*b) g0 g1) (tm2 (a1*c) (c+a1*b) (b+a1) g0 g1 g2) (D3 (a1*c) (c+a1*b) (b+a1) g0 g1 g2)
  have h3 := s.n3
  have e := dn3 a1 b c g0 g1 g2
  have k1 : ch3 (m1 (a1*c) (c+a1*b) g0 g1) (tm2 (a1*c) (c+a1*b) (b+a1) g0 g1 g2) (D3 (a1*c) (c+a1*b) (b+a1) g0 g1 g2) ≠ 0 ∧ ch3 (m1 (a1*c) (c+a1*b) g0 g1) (tm2 (a1*c) (c+a1*b) (b+a1) g0 g1 g2) (D3 (a1*c) (c+a1*b) (b+a1) g0 g1 g2) ≠ 3 := k
  clear k
  unfold c3
  generalize ch3 (m1 (a1*c) (c+a1*b) g0 g1) (tm2 (a1*c) (c+a1*b) (b+a1) g0 g1 g2) (D3 (a1*c) (c+a1*b) (b+a1) g0 g1 g2) = C at *
  clear s
  generalize D3 (a1*c) (c+a1*b) (b+a1) g0 g1 g2 = dd at *
  generalize gv g0 g1 g2 0 (-a1) = G at *
  have hgn : G * Nm b c (g0-c*g2) (g1-b*g2) ≠ 0 := by omega
  have hN := Nm_pos hd (ne_right hgn)
  generalize Nm b c (g0-c*g2) (g1-b*g2) = N at *
  refine ⟨?_, k1.1⟩
  rcases sg (ne_left hgn) with h | h
  · have z := Int.mul_neg_of_neg_of_pos h hN
    rw [ng_pos (x := dd) (by omega)] at par
    rw [sgn_neg h]; omega
  · have z := Int.mul_pos h hN
    rw [ng_neg (x := dd) (by omega)] at par
    rw [sgn_pos h]; omega
/-- counting: three orthogonal vectors with values S -/
theorem cnt3 {C dd S1 S2 S3 K : Int} (par : (C + ng dd) % 2 = 0) (r : 0 ≤ C ∧ C ≤ 3) (hK : 0 < K) (n1 : S1 ≠ 0) (n2 : S2 ≠ 0) (n3 : S3 ≠ 0) (hS : S1 * S2 * S3 = dd * K)
    (t12 : 0 < S1 → 0 < S2 → ¬ 2 ≤ C) (t13 : 0 < S1 → 0 < S3 → ¬ 2 ≤ C) (t23 : 0 < S2 → 0 < S3 → ¬ 2 ≤ C)
    (o12 : S1 < 0 → S2 < 0 → ¬ C ≤ 1) (o13 : S1 < 0 → S3 < 0 → ¬ C ≤ 1) (o23 : S2 < 0 → S3 < 0 → ¬ C ≤ 1) : 2 * C = 3 - (sgn S1 + sgn S2 + sgn S3) := by
  have hdd : ng dd = ng (S1 * S2 * S3) := by rw [hS, ng_mul hK]
  rw [hdd] at par
  rcases sg n1 with x1 | x1 <;> rcases sg n2 with x2 | x2 <;> rcases sg n3 with x3 | x3
  · have o := o12 x1 x2
    rw [ng_neg (pn (nn x1 x2) x3)] at par
    rw [sgn_neg x1, sgn_neg x2, sgn_neg x3]; omega
  · have o := o12 x1 x2
    rw [ng_pos (pp (nn x1 x2) x3)] at par
    rw [sgn_neg x1, sgn_neg x2, sgn_pos x3]; omega
  · have o := o13 x1 x3
    rw [ng_pos (nn (np x1 x2) x3)] at par
    rw [sgn_neg x1, sgn_pos x2, sgn_neg x3]; omega
  · have o := t23 x2 x3
    rw [ng_neg (np (np x1 x2) x3)] at par
    rw [sgn_neg x1, sgn_pos x2, sgn_pos x3]; omega
  · have o := o23 x2 x3
    rw [ng_pos (nn (pn x1 x2) x3)] at par
    rw [sgn_pos x1, sgn_neg x2, sgn_neg x3]; omega
  · have o := t13 x1 x3
    rw [ng_neg (np (pn x1 x2) x3)] at par
    rw [sgn_pos x1, sgn_neg x2, sgn_pos x3]; omega
  · have o := t12 x1 x2
    rw [ng_neg (pn (pp x1 x2) x3)] at par
    rw [sgn_pos x1, sgn_pos x2, sgn_neg x3]; omega
  · have o := t12 x1 x2
    rw [ng_pos (pp (pp x1 x2) x3)] at par
    rw [sgn_pos x1, sgn_pos x2, sgn_pos x3]; omega
/-- one value of the sign of the determinant's, the definite cases shut -/
theorem cnt1 {C dd S G K : Int} (par : (C + ng dd) % 2 = 0) (r : 0 ≤ C ∧ C ≤ 3) (hK : 0 < K) (n1 : G ≠ 0) (hS : dd = -(G * K)) (hp : G < 0 → C ≠ 0) (hn : 0 < G → C ≠ 3) (hs : sgn S = sgn G) : 2 * C = 3 - sgn S := by
  rw [hs]
  rcases sg n1 with h | h
  · have z := Int.mul_neg_of_neg_of_pos h hK
    have := hp h
    rw [ng_pos (x := dd) (by omega)] at par
    rw [sgn_neg h]; omega
  · have z := Int.mul_pos h hK
    have := hn h
    rw [ng_neg (x := dd) (by omega)] at par
    rw [sgn_pos h]; omega
end Mine
end
section
set_option maxRecDepth 100000
set_option maxHeartbeats 8000000
namespace Mine
theorem dn33 (a1 a2 a3 g0 g1 g2 : Int) : D3 (a1*(a2*a3)) (a2*a3+a1*(a2+a3)) (a2+a3+a1) g0 g1 g2 = -(gv g0 g1 g2 0 (-a1) * (gv g0 g1 g2 0 (-a2) * gv g0 g1 g2 0 (-a3))) := by
  rw [dn3 a1 (a2+a3) (a2*a3) g0 g1 g2, nmlin3]
theorem sq33 (G1 G2 G3 a1 a2 a3 : Int) : G1 * ((a2-a1)*(a3-a1)) * (G2 * ((a1-a2)*(a3-a2))) * (G3 * ((a1-a3)*(a2-a3))) = -(G1 * (G2 * G3)) * (((a1-a2)*(a1-a3)*(a2-a3))*((a1-a2)*(a1-a3)*(a2-a3))) := by grind
theorem sne {x y : Int} (h : x ≠ y) : x - y ≠ 0 := by omega
theorem sw1 (G1 G3 : Int) : -(G1 * (G1 * G3)) = -(G3 * (G1 * G1)) := by grind
theorem sw2 (G1 G2 : Int) : -(G1 * (G2 * G1)) = -(G2 * (G1 * G1)) := by grind
theorem sw3 (a b : Int) : (a-b)*(a-b) = (b-a)*(b-a) := by grind
theorem qv31 (a1 a2 a3 g0 g1 g2 : Int) : T3 (a1*(a2*a3)) (a2*a3+a1*(a2+a3)) (a2+a3+a1) g0 g1 g2 1 (-a1) (a1*a1) = (gv g0 g1 g2 0 (-a1) * ((a2-a1)*(a3-a1))) := by
  rw [qv3 a1 (a2+a3) (a2*a3) g0 g1 g2]; congr 1; grind
section
variable {a1 a2 a3 g0 g1 g2 : Int} (s : S3 (m1 (a1*(a2*a3)) (a2*a3+a1*(a2+a3)) g0 g1) (tm2 (a1*(a2*a3)) (a2*a3+a1*(a2+a3)) (a2+a3+a1) g0 g1 g2) (D3 (a1*(a2*a3)) (a2*a3+a1*(a2+a3)) (a2+a3+a1) g0 g1 g2))
include s
theorem idx_lll (hne : ¬ (a1 = a2 ∧ a2 = a3)) : 2 * c3 (a1*(a2*a3)) (a2*a3+a1*(a2+a3)) (a2+a3+a1) g0 g1 g2 = 3 - (sgn (gv g0 g1 g2 0 (-a1) * ((a2-a1)*(a3-a1))) + sgn (gv g0 g1 g2 0 (-a2) * ((a1-a2)*(a3-a2))) + sgn (gv g0 g1 g2 0 (-a3) * ((a1-a3)*(a2-a3)))) := by
  have par := ch3_par s
  have r := ch3_range (m1 (a1*(a2*a3)) (a2*a3+a1*(a2+a3)) g0 g1) (tm2 (a1*(a2*a3)) (a2*a3+a1*(a2+a3)) (a2+a3+a1) g0 g1 g2) (D3 (a1*(a2*a3)) (a2*a3+a1*(a2+a3)) (a2+a3+a1) g0 g1 g2)
  have h3 := s.n3
  have e := dn33 a1 a2 a3 g0 g1 g2
  have v1 := qv31 a1 a2 a3 g0 g1 g2
  have v2 := qv3' a1 a2 a3 g0 g1 g2
  have v3 := qv3'' a1 a2 a3 g0 g1 g2
  have t12 : 0 < (gv g0 g1 g2 0 (-a1) * ((a2-a1)*(a3-a1))) → 0 < (gv g0 g1 g2 0 (-a2) * ((a1-a2)*(a3-a2))) → ¬ 2 ≤ ch3 (m1 (a1*(a2*a3)) (a2*a3+a1*(a2+a3)) g0 g1) (tm2 (a1*(a2*a3)) (a2*a3+a1*(a2+a3)) (a2+a3+a1) g0 g1 g2) (D3 (a1*(a2*a3)) (a2*a3+a1*(a2+a3)) (a2+a3+a1) g0 g1 g2) := fun x y => three3 rfl rfl s (lt_of_lt_of_eq x v1.symm) (lt_of_lt_of_eq y v2.symm) (pv3a a1 a2 a3 g0 g1 g2)
  have o12 : (gv g0 g1 g2 0 (-a1) * ((a2-a1)*(a3-a1))) < 0 → (gv g0 g1 g2 0 (-a2) * ((a1-a2)*(a3-a2))) < 0 → ¬ ch3 (m1 (a1*(a2*a3)) (a2*a3+a1*(a2+a3)) g0 g1) (tm2 (a1*(a2*a3)) (a2*a3+a1*(a2+a3)) (a2+a3+a1) g0 g1 g2) (D3 (a1*(a2*a3)) (a2*a3+a1*(a2+a3)) (a2+a3+a1) g0 g1 g2) ≤ 1 := fun x y => one3 rfl rfl s (lt_of_eq_of_lt v1 x) (lt_of_eq_of_lt v2 y) (pv3a a1 a2 a3 g0 g1 g2)
  have t13 : 0 < (gv g0 g1 g2 0 (-a1) * ((a2-a1)*(a3-a1))) → 0 < (gv g0 g1 g2 0 (-a3) * ((a1-a3)*(a2-a3))) → ¬ 2 ≤ ch3 (m1 (a1*(a2*a3)) (a2*a3+a1*(a2+a3)) g0 g1) (tm2 (a1*(a2*a3)) (a2*a3+a1*(a2+a3)) (a2+a3+a1) g0 g1 g2) (D3 (a1*(a2*a3)) (a2*a3+a1*(a2+a3)) (a2+a3+a1) g0 g1 g2) := fun x y => three3 rfl rfl s (lt_of_lt_of_eq x v1.symm) (lt_of_lt_of_eq y v3.symm) (pv3b a1 a2 a3 g0 g1 g2)
  have o13 : (gv g0 g1 g2 0 (-a1) * ((a2-a1)*(a3-a1))) < 0 → (gv g0 g1 g2 0 (-a3) * ((a1-a3)*(a2-a3))) < 0 → ¬ ch3 (m1 (a1*(a2*a3)) (a2*a3+a1*(a2+a3)) g0 g1) (tm2 (a1*(a2*a3)) (a2*a3+a1*(a2+a3)) (a2+a3+a1) g0 g1 g2) (D3 (a1*(a2*a3)) (a2*a3+a1*(a2+a3)) (a2+a3+a1) g0 g1 g2) ≤ 1 := fun x y => one3 rfl rfl s (lt_of_eq_of_lt v1 x) (lt_of_eq_of_lt v3 y) (pv3b a1 a2 a3 g0 g1 g2)
  have t23 : 0 < (gv g0 g1 g2 0 (-a2) * ((a1-a2)*(a3-a2))) → 0 < (gv g0 g1 g2 0 (-a3) * ((a1-a3)*(a2-a3))) → ¬ 2 ≤ ch3 (m1 (a1*(a2*a3)) (a2*a3+a1*(a2+a3)) g0 g1) (tm2 (a1*(a2*a3)) (a2*a3+a1*(a2+a3)) (a2+a3+a1) g0 g1 g2) (D3 (a1*(a2*a3)) (a2*a3+a1*(a2+a3)) (a2+a3+a1) g0 g1 g2) := fun x y => three3 rfl rfl s (lt_of_lt_of_eq x v2.symm) (lt_of_lt_of_eq y v3.symm) (pv3c a1 a2 a3 g0 g1 g2)
  have o23 : (gv g0 g1 g2 0 (-a2) * ((a1-a2)*(a3-a2))) < 0 → (gv g0 g1 g2 0 (-a3) * ((a1-a3)*(a2-a3))) < 0 → ¬ ch3 (m1 (a1*(a2*a3)) (a2*a3+a1*(a2+a3)) g0 g1) (tm2 (a1*(a2*a3)) (a2*a3+a1*(a2+a3)) (a2+a3+a1) g0 g1 g2) (D3 (a1*(a2*a3)) (a2*a3+a1*(a2+a3)) (a2+a3+a1) g0 g1 g2) ≤ 1 := fun x y => one3 rfl rfl s (lt_of_eq_of_lt v2 x) (lt_of_eq_of_lt v3 y) (pv3c a1 a2 a3 g0 g1 g2)
  have p1 : (gv g0 g1 g2 0 (-a1) * ((a2-a1)*(a3-a1))) ≤ 0 → ch3 (m1 (a1*(a2*a3)) (a2*a3+a1*(a2+a3)) g0 g1) (tm2 (a1*(a2*a3)) (a2*a3+a1*(a2+a3)) (a2+a3+a1) g0 g1 g2) (D3 (a1*(a2*a3)) (a2*a3+a1*(a2+a3)) (a2+a3+a1) g0 g1 g2) ≠ 0 := fun x => notpos3 rfl rfl s (by decide) (le_of_eq_of_le v1 x)
  have q1 : 0 ≤ (gv g0 g1 g2 0 (-a1) * ((a2-a1)*(a3-a1))) → ch3 (m1 (a1*(a2*a3)) (a2*a3+a1*(a2+a3)) g0 g1) (tm2 (a1*(a2*a3)) (a2*a3+a1*(a2+a3)) (a2+a3+a1) g0 g1 g2) (D3 (a1*(a2*a3)) (a2*a3+a1*(a2+a3)) (a2+a3+a1) g0 g1 g2) ≠ 3 := fun x => notneg3 rfl rfl s (by decide) (le_of_le_of_eq x v1.symm)
  have p2 : (gv g0 g1 g2 0 (-a2) * ((a1-a2)*(a3-a2))) ≤ 0 → ch3 (m1 (a1*(a2*a3)) (a2*a3+a1*(a2+a3)) g0 g1) (tm2 (a1*(a2*a3)) (a2*a3+a1*(a2+a3)) (a2+a3+a1) g0 g1 g2) (D3 (a1*(a2*a3)) (a2*a3+a1*(a2+a3)) (a2+a3+a1) g0 g1 g2) ≠ 0 := fun x => notpos3 rfl rfl s (by decide) (le_of_eq_of_le v2 x)
  have q2 : 0 ≤ (gv g0 g1 g2 0 (-a2) * ((a1-a2)*(a3-a2))) → ch3 (m1 (a1*(a2*a3)) (a2*a3+a1*(a2+a3)) g0 g1) (tm2 (a1*(a2*a3)) (a2*a3+a1*(a2+a3)) (a2+a3+a1) g0 g1 g2) (D3 (a1*(a2*a3)) (a2*a3+a1*(a2+a3)) (a2+a3+a1) g0 g1 g2) ≠ 3 := fun x => notneg3 rfl rfl s (by decide) (le_of_le_of_eq x v2.symm)
  have p3 : (gv g0 g1 g2 0 (-a3) * ((a1-a3)*(a2-a3))) ≤ 0 → ch3 (m1 (a1*(a2*a3)) (a2*a3+a1*(a2+a3)) g0 g1) (tm2 (a1*(a2*a3)) (a2*a3+a1*(a2+a3)) (a2+a3+a1) g0 g1 g2) (D3 (a1*(a2*a3)) (a2*a3+a1*(a2+a3)) (a2+a3+a1) g0 g1 g2) ≠ 0 := fun x => notpos3 rfl rfl s (by decide) (le_of_eq_of_le v3 x)
  have q3 : 0 ≤ (gv g0 g1 g2 0 (-a3) * ((a1-a3)*(a2-a3))) → ch3 (m1 (a1*(a2*a3)) (a2*a3+a1*(a2+a3)) g0 g1) (tm2 (a1*(a2*a3)) (a2*a3+a1*(a2+a3)) (a2+a3+a1) g0 g1 g2) (D3 (a1*(a2*a3)) (a2*a3+a1*(a2+a3)) (a2+a3+a1) g0 g1 g2) ≠ 3 := fun x => notneg3 rfl rfl s (by decide) (le_of_le_of_eq x v3.symm)
  have s33 := sq33 (gv g0 g1 g2 0 (-a1)) (gv g0 g1 g2 0 (-a2)) (gv g0 g1 g2 0 (-a3)) a1 a2 a3
  have g12 : a1 = a2 → gv g0 g1 g2 0 (-a1) = gv g0 g1 g2 0 (-a2) := fun h => by rw [h]
  have g13 : a1 = a3 → gv g0 g1 g2 0 (-a1) = gv g0 g1 g2 0 (-a3) := fun h => by rw [h]
  have g23 : a2 = a3 → gv g0 g1 g2 0 (-a2) = gv g0 g1 g2 0 (-a3) := fun h => by rw [h]
  unfold c3
  clear v1 v2 v3 s
  generalize ch3 (m1 (a1*(a2*a3)) (a2*a3+a1*(a2+a3)) g0 g1) (tm2 (a1*(a2*a3)) (a2*a3+a1*(a2+a3)) (a2+a3+a1) g0 g1 g2) (D3 (a1*(a2*a3)) (a2*a3+a1*(a2+a3)) (a2+a3+a1) g0 g1 g2) = C at *
  generalize D3 (a1*(a2*a3)) (a2*a3+a1*(a2+a3)) (a2+a3+a1) g0 g1 g2 = dd at *
  generalize gv g0 g1 g2 0 (-a1) = G1 at *
  generalize gv g0 g1 g2 0 (-a2) = G2 at *
  generalize gv g0 g1 g2 0 (-a3) = G3 at *
  have hg : G1 * (G2 * G3) ≠ 0 := fun h => h3 (by rw [e, h, Int.neg_zero])
  have hg1 := ne_left hg
  have hg2 := ne_left (ne_right hg)
  have hg3 := ne_right (ne_right hg)
  rw [← e] at s33
  by_cases h12 : a1 = a2
  · have ge := g12 h12
    subst h12 ge
    have hk : 0 < (a3-a1)*(a3-a1) := sqp (sne fun h => hne ⟨rfl, h.symm⟩)
    have hk2 := sw3 a1 a3
    have z : (a1-a1)*(a3-a1) = 0 := by rw [Int.sub_self, Int.zero_mul]
    have z0 : (a1-a1)*(a3-a1) = 0 := z
    rw [z, Int.mul_zero, sgn_zero, Int.add_zero, Int.zero_add]
    refine cnt1 par r (sqp hg1) hg3 (e.trans (sw1 G1 G3)) (fun x => p3 ?_) (fun x => q3 ?_) ?_
    · rw [hk2]; exact Int.le_of_lt (Int.mul_neg_of_neg_of_pos x hk)
    · rw [hk2]; exact Int.le_of_lt (Int.mul_pos x hk)
    · rw [hk2]; exact sgn_mulp hk
  by_cases h13 : a1 = a3
  · have ge := g13 h13
    subst h13 ge
    have hk : 0 < (a1-a2)*(a1-a2) := sqp (sne h12)
    have z : (a2-a1)*(a1-a1) = 0 := by rw [Int.sub_self, Int.mul_zero]
    have z2 : (a1-a1)*(a2-a1) = 0 := by rw [Int.sub_self, Int.zero_mul]
    rw [z, z2, Int.mul_zero, sgn_zero, Int.add_zero, Int.zero_add]
    refine cnt1 par r (sqp hg1) hg2 (e.trans (sw2 G1 G2)) (fun x => p2 ?_) (fun x => q2 ?_) ?_
    · exact Int.le_of_lt (Int.mul_neg_of_neg_of_pos x hk)
    · exact Int.le_of_lt (Int.mul_pos x hk)
    · exact sgn_mulp hk
  by_cases h23 : a2 = a3
  · have ge := g23 h23
    subst h23 ge
    have hk : 0 < (a2-a1)*(a2-a1) := sqp (sne fun h => h12 h.symm)
    have z : (a1-a2)*(a2-a2) = 0 := by rw [Int.sub_self, Int.mul_zero]
    rw [z, Int.mul_zero, sgn_zero, Int.add_zero, Int.add_zero]
    refine cnt1 par r (sqp hg2) hg1 e (fun x => p1 ?_) (fun x => q1 ?_) ?_
    · exact Int.le_of_lt (Int.mul_neg_of_neg_of_pos x hk)
    · exact Int.le_of_lt (Int.mul_pos x hk)
    · exact sgn_mulp hk
  · have d1 : (a1-a2)*(a1-a3)*(a2-a3) ≠ 0 := Int.mul_ne_zero (Int.mul_ne_zero (sne h12) (sne h13)) (sne h23)
    exact cnt3 par r (sqp d1) (Int.mul_ne_zero hg1 (Int.mul_ne_zero (sne fun h => h12 h.symm) (sne fun h => h13 h.symm))) (Int.mul_ne_zero hg2 (Int.mul_ne_zero (sne h12) (sne fun h => h23 h.symm))) (Int.mul_ne_zero hg3 (Int.mul_ne_zero (sne h13) (sne h23))) s33 t12 t13 t23 o12 o13 o23
end
/-- a triple root -/
theorem idx_tri {a1 g0 g1 g2 : Int} (s : S3 (m1 (a1*(a1*a1)) (a1*a1+a1*(a1+a1)) g0 g1) (tm2 (a1*(a1*a1)) (a1*a1+a1*(a1+a1)) (a1+a1+a1) g0 g1 g2) (D3 (a1*(a1*a1)) (a1*a1+a1*(a1+a1)) (a1+a1+a1) g0 g1 g2)) : 2 * c3 (a1*(a1*a1)) (a1*a1+a1*(a1+a1)) (a1+a1+a1) g0 g1 g2 = 3 - sgn (gv g0 g1 g2 0 (-a1)) := by
  have par := ch3_par s
  have r := ch3_range (m1 (a1*(a1*a1)) (a1*a1+a1*(a1+a1)) g0 g1) (tm2 (a1*(a1*a1)) (a1*a1+a1*(a1+a1)) (a1+a1+a1) g0 g1 g2) (D3 (a1*(a1*a1)) (a1*a1+a1*(a1+a1)) (a1+a1+a1) g0 g1 g2)
  have h3 := s.n3
  have e := dn33 a1 a1 a1 g0 g1 g2
  have v1 := qv31 a1 a1 a1 g0 g1 g2
  rw [Int.sub_self, Int.zero_mul, Int.mul_zero] at v1
  have p1 : ch3 (m1 (a1*(a1*a1)) (a1*a1+a1*(a1+a1)) g0 g1) (tm2 (a1*(a1*a1)) (a1*a1+a1*(a1+a1)) (a1+a1+a1) g0 g1 g2) (D3 (a1*(a1*a1)) (a1*a1+a1*(a1+a1)) (a1+a1+a1) g0 g1 g2) ≠ 0 := notpos3 rfl rfl s (by decide) (Int.le_of_eq v1)
  have q1 : ch3 (m1 (a1*(a1*a1)) (a1*a1+a1*(a1+a1)) g0 g1) (tm2 (a1*(a1*a1)) (a1*a1+a1*(a1+a1)) (a1+a1+a1) g0 g1 g2) (D3 (a1*(a1*a1)) (a1*a1+a1*(a1+a1)) (a1+a1+a1) g0 g1 g2) ≠ 3 := notneg3 rfl rfl s (by decide) (Int.le_of_eq v1.symm)
  unfold c3
  clear v1 s
  generalize ch3 (m1 (a1*(a1*a1)) (a1*a1+a1*(a1+a1)) g0 g1) (tm2 (a1*(a1*a1)) (a1*a1+a1*(a1+a1)) (a1+a1+a1) g0 g1 g2) (D3 (a1*(a1*a1)) (a1*a1+a1*(a1+a1)) (a1+a1+a1) g0 g1 g2) = C at *
  generalize D3 (a1*(a1*a1)) (a1*a1+a1*(a1+a1)) (a1+a1+a1) g0 g1 g2 = dd at *
  generalize gv g0 g1 g2 0 (-a1) = G1 at *
  have hg : G1 * (G1 * G1) ≠ 0 := by omega
  have hg1 := ne_left hg
  exact cnt1 par r (sqp hg1) hg1 e (fun _ => p1) (fun _ => q1) rfl
/-- n = 2 -/
noncomputable def Tq (f0 f1 g0 g1 v0 v1 : Int) : Int := Q2 (f1*g0-f0*g1) g0 g1 v0 v1
noncomputable def u2 (f0 f1 g0 g1 : Int) : Int := (f1*g0-f0*g1)*g1 - g0*g0
theorem u2_D2 (f0 f1 g0 g1 : Int) : D2 f0 f1 g0 g1 = u2 f0 f1 g0 g1 := by unfold D2 det2 u2; rfl
theorem dn2 (b c g0 g1 : Int) : u2 c b g0 g1 = -Nm b c g0 g1 := by unfold u2 Nm; grind
theorem nmlin2 (a1 a2 g0 g1 : Int) : Nm (a1+a2) (a1*a2) g0 g1 = gv g0 g1 0 0 (-a1) * gv g0 g1 0 0 (-a2) := by unfold Nm gv; grind
theorem qv21 (a1 a2 g0 g1 : Int) : Tq (a1*a2) (a1+a2) g0 g1 1 (-a1) = gv g0 g1 0 0 (-a1) * (a2-a1) := by unfold Tq Q2 gv; grind
noncomputable abbrev c2 (f0 f1 g0 g1 : Int) : Int := ch2 (m1 f0 f1 g0 g1) (u2 f0 f1 g0 g1)
theorem idx_q {b c g0 g1 : Int} (hd : 0 < 4*c - b*b) (s : S2 (m1 c b g0 g1) (u2 c b g0 g1)) : c2 c b g0 g1 = 1 := by
  have par := ch2_par s
  have r := ch2_range (m1 c b g0 g1) (u2 c b g0 g1)
  have h2 := s.n2
  have e := dn2 b c g0 g1
  have := Nm_pos (A := g0) (B := g1) hd (by omega)
  rw [ng_neg (x := u2 c b g0 g1) (by omega)] at par
  unfold c2
  omega
theorem idx_l2 {a1 a2 g0 g1 : Int} (s : S2 (m1 (a1*a2) (a1+a2) g0 g1) (u2 (a1*a2) (a1+a2) g0 g1)) : 2 * c2 (a1*a2) (a1+a2) g0 g1 = 2 - (sgn (gv g0 g1 0 0 (-a1) * (a2-a1)) + sgn (gv g0 g1 0 0 (-a2) * (a1-a2))) := by
  have par := ch2_par s
  have r := ch2_range (m1 (a1*a2) (a1+a2) g0 g1) (u2 (a1*a2) (a1+a2) g0 g1)
  have h2 := s.n2
  have e := dn2 (a1+a2) (a1*a2) g0 g1
  rw [nmlin2] at e
  have v1 := qv21 a1 a2 g0 g1
  have p1 : gv g0 g1 0 0 (-a1) * (a2-a1) ≤ 0 → ch2 (m1 (a1*a2) (a1+a2) g0 g1) (u2 (a1*a2) (a1+a2) g0 g1) ≠ 0 := fun x => notpos2 rfl s (by decide) (le_of_eq_of_le v1 x)
  have q1 : 0 ≤ gv g0 g1 0 0 (-a1) * (a2-a1) → ch2 (m1 (a1*a2) (a1+a2) g0 g1) (u2 (a1*a2) (a1+a2) g0 g1) ≠ 2 := fun x => notneg2 rfl s (by decide) (le_of_le_of_eq x v1.symm)
  have key := sprod (gv g0 g1 0 0 (-a1)) (gv g0 g1 0 0 (-a2)) a1 a2
  have g12 : a1 = a2 → gv g0 g1 0 0 (-a1) = gv g0 g1 0 0 (-a2) := fun h => by rw [h]
  unfold c2
  clear v1 s
  generalize ch2 (m1 (a1*a2) (a1+a2) g0 g1) (u2 (a1*a2) (a1+a2) g0 g1) = C at *
  generalize u2 (a1*a2) (a1+a2) g0 g1 = dd at *
  generalize gv g0 g1 0 0 (-a1) = G1 at *
  generalize gv g0 g1 0 0 (-a2) = G2 at *
  have hg : G1 * G2 ≠ 0 := by omega
  by_cases h12 : a1 = a2
  · have ge := g12 h12
    subst h12 ge
    have z := sqp (ne_left hg)
    rw [ng_neg (x := dd) (by omega)] at par
    rw [Int.sub_self, Int.mul_zero, sgn_zero]; omega
  · have hsq : 0 < (a1-a2)*(a1-a2) := sqp (by omega)
    have n1 : G1 * (a2-a1) ≠ 0 := Int.mul_ne_zero (ne_left hg) (by omega)
    have n2 : G2 * (a1-a2) ≠ 0 := Int.mul_ne_zero (ne_right hg) (by omega)
    have gpos : 0 < G1 * G2 → G1 * (a2-a1) * (G2 * (a1-a2)) < 0 := fun h => by have := Int.mul_pos h hsq; omega
    have gneg : G1 * G2 < 0 → 0 < G1 * (a2-a1) * (G2 * (a1-a2)) := fun h => by have := Int.mul_neg_of_neg_of_pos h hsq; omega
    clear key
    generalize G1 * (a2-a1) = S1 at *
    generalize G2 * (a1-a2) = S2 at *
    rcases sg n1 with x1 | x1 <;> rcases sg n2 with x2 | x2
    · have z := nn x1 x2
      have := p1 (by omega)
      have y : G1 * G2 < 0 := (sg hg).resolve_right fun h => by have := gpos h; omega
      rw [ng_pos (x := dd) (by omega)] at par
      rw [sgn_neg x1, sgn_neg x2]; omega
    · have z := np x1 x2
      have y : 0 < G1 * G2 := (sg hg).resolve_left fun h => by have := gneg h; omega
      rw [ng_neg (x := dd) (by omega)] at par
      rw [sgn_neg x1, sgn_pos x2]; omega
    · have z := pn x1 x2
      have y : 0 < G1 * G2 := (sg hg).resolve_left fun h => by have := gneg h; omega
      rw [ng_neg (x := dd) (by omega)] at par
      rw [sgn_pos x1, sgn_neg x2]; omega
    · have z := pp x1 x2
      have := q1 (by omega)
      have y : G1 * G2 < 0 := (sg hg).resolve_right fun h => by have := gpos h; omega
      rw [ng_pos (x := dd) (by omega)] at par
      rw [sgn_pos x1, sgn_pos x2]; omega
theorem idx_1 {g0 : Int} (h : g0 ≠ 0) : 2 * ng g0 = 1 - sgn g0 := by
  rcases sg h with x | x
  · rw [ng_neg x, sgn_neg x]; rfl
  · rw [ng_pos x, sgn_pos x]; rfl
end Mine
end
section
set_option maxRecDepth 100000
set_option maxHeartbeats 8000000
namespace Mine
theorem mulInner_zero : ∀ (ys : List Int) (f : List Int) (o : Nat), mulInner f o 0 ys = f := by
  intro ys f o
  unfold mulInner
  have : ∀ (l : List (Int × Nat)) (f : List Int), l.foldl (fun f p => f.set (o + p.2) (f.getD (o + p.2) 0 + 0 * p.1)) f = f := by
    intro l
    induction l with
    | nil => intro f; rfl
    | cons p l ih =>
      intro f
      rw [List.foldl_cons, Int.zero_mul, Int.add_zero]
      have e : f.set (o + p.2) (f.getD (o + p.2) 0) = f := by
        apply List.ext_getElem?
        intro i
        by_cases h : o + p.2 = i
        · subst h
          by_cases hl : o + p.2 < f.length
          · rw [List.getElem?_set_self hl, List.getD_eq_getElem?_getD, List.getElem?_eq_getElem hl]; rfl
          · rw [List.getElem?_eq_none (by rw [List.length_set]; omega), List.getElem?_eq_none (by omega)]
        · rw [List.getElem?_set_ne h]
      rw [e]; exact ih f
  exact this _ f
theorem mulOuter_all (found ys pre : List Int) : mulOuter found ys pre = (pre.zipIdx).foldl (fun f p => mulInner f p.2 p.1 ys) found := by
  unfold mulOuter
  congr 1
  funext f p
  by_cases h : p.1 ≠ 0
  · rw [if_pos h]
  · rw [if_neg h, Decidable.not_not.mp h, mulInner_zero]
theorem zmul_12 (x0 y0 y1 : Int) : zmulP [x0] [y0, y1] = [x0 * y0, x0 * y1] := by
  unfold zmulP; rw [if_neg (by simp), mulOuter_all]; simp [mulInner, List.zipIdx]
theorem zmul_13 (x0 y0 y1 y2 : Int) : zmulP [x0] [y0, y1, y2] = [x0 * y0, x0 * y1, x0 * y2] := by
  unfold zmulP; rw [if_neg (by simp), mulOuter_all]; simp [mulInner, List.zipIdx]
theorem zmul_22 (x0 x1 y0 y1 : Int) : zmulP [x0, x1] [y0, y1] = [x0 * y0, x0 * y1 + x1 * y0, x1 * y1] := by
  unfold zmulP; rw [if_neg (by simp), mulOuter_all]; simp [mulInner, List.zipIdx]
theorem zmul_23 (x0 x1 y0 y1 y2 : Int) : zmulP [x0, x1] [y0, y1, y2] = [x0 * y0, x0 * y1 + x1 * y0, x0 * y2 + x1 * y1, x1 * y2] := by
  unfold zmulP; rw [if_neg (by simp), mulOuter_all]; simp [mulInner, List.zipIdx]
theorem zmul_32 (x0 x1 x2 y0 y1 : Int) : zmulP [x0, x1, x2] [y0, y1] = [x0 * y0, x0 * y1 + x1 * y0, x1 * y1 + x2 * y0, x2 * y1] := by
  unfold zmulP; rw [if_neg (by simp), mulOuter_all]; simp [mulInner, List.zipIdx]
theorem zmul_33 (x0 x1 x2 y0 y1 y2 : Int) : zmulP [x0, x1, x2] [y0, y1, y2] = [x0 * y0, x0 * y1 + x1 * y0, x0 * y2 + x1 * y1 + x2 * y0, x1 * y2 + x2 * y1, x2 * y2] := by
  unfold zmulP; rw [if_neg (by simp), mulOuter_all]; simp [mulInner, List.zipIdx]
theorem zmul_42 (x0 x1 x2 x3 y0 y1 : Int) : zmulP [x0, x1, x2, x3] [y0, y1] = [x0 * y0, x0 * y1 + x1 * y0, x1 * y1 + x2 * y0, x2 * y1 + x3 * y0, x3 * y1] := by
  unfold zmulP; rw [if_neg (by simp), mulOuter_all]; simp [mulInner, List.zipIdx]
noncomputable def polyL (ps : List (List Int)) : List Int := ps.foldl zmulP [1]
theorem l4 {x x' y y' z z' w w' : Int} (h : x = x') (k : y = y') (l : z = z') (m : w = w') : [x, y, z, w] = [x', y', z', w'] := by rw [h, k, l, m]
theorem l5 {x x' y y' z z' w w' v v' : Int} (h : x = x') (k : y = y') (l : z = z') (m : w = w') (n : v = v') : [x, y, z, w, v] = [x', y', z', w', v'] := by rw [h, k, l, m, n]
section
variable (a1 a2 a3 b c u t : Int)
theorem poly_l : polyL [[a1, 1]] = [a1, 1] := by
  show zmulP [1] [a1, 1] = _
  rw [zmul_12, Int.one_mul, Int.one_mul]
theorem poly_q : polyL [[c, b, 1]] = [c, b, 1] := by
  show zmulP [1] [c, b, 1] = _
  rw [zmul_13, Int.one_mul, Int.one_mul, Int.one_mul]
theorem poly_ll : polyL [[a1, 1], [a2, 1]] = [a1*a2, a1+a2, 1] := by
  show zmulP (polyL [[a1, 1]]) [a2, 1] = _
  rw [poly_l, zmul_22]; exact l3 rfl (by grind) (by grind)
theorem poly_lq : polyL [[a1, 1], [c, b, 1]] = [a1*c, c+a1*b, b+a1, 1] := by
  show zmulP (polyL [[a1, 1]]) [c, b, 1] = _
  rw [poly_l, zmul_23]; exact l4 (by grind) (by grind) (by grind) (by grind)
theorem poly_ql : polyL [[c, b, 1], [a1, 1]] = [a1*c, c+a1*b, b+a1, 1] := by
  show zmulP (polyL [[c, b, 1]]) [a1, 1] = _
  rw [poly_q, zmul_32]; exact l4 (by grind) (by grind) (by grind) (by grind)
theorem poly_qq : polyL [[c, b, 1], [t, u, 1]] = [c*t, c*u+b*t, c+t+b*u, b+u, 1] := by
  show zmulP (polyL [[c, b, 1]]) [t, u, 1] = _
  rw [poly_q, zmul_33]; exact l5 (by grind) (by grind) (by grind) (by grind) (by grind)
theorem poly_lll : polyL [[a1, 1], [a2, 1], [a3, 1]] = [a1*(a2*a3), a2*a3+a1*(a2+a3), a2+a3+a1, 1] := by
  show zmulP (polyL [[a1, 1], [a2, 1]]) [a3, 1] = _
  rw [poly_ll, zmul_32]; exact l4 (by grind) (by grind) (by grind) (by grind)
theorem poly_llq : polyL [[a1, 1], [a2, 1], [c, b, 1]] = [c*(a1*a2), c*(a1+a2)+b*(a1*a2), c+a1*a2+b*(a1+a2), b+(a1+a2), 1] := by
  show zmulP (polyL [[a1, 1], [a2, 1]]) [c, b, 1] = _
  rw [poly_ll, zmul_33]; exact l5 (by grind) (by grind) (by grind) (by grind) (by grind)
theorem poly_lql : polyL [[a1, 1], [c, b, 1], [a2, 1]] = [c*(a1*a2), c*(a1+a2)+b*(a1*a2), c+a1*a2+b*(a1+a2), b+(a1+a2), 1] := by
  show zmulP (polyL [[a1, 1], [c, b, 1]]) [a2, 1] = _
  rw [poly_lq, zmul_42]; exact l5 (by grind) (by grind) (by grind) (by grind) (by grind)
theorem poly_qll : polyL [[c, b, 1], [a1, 1], [a2, 1]] = [c*(a1*a2), c*(a1+a2)+b*(a1*a2), c+a1*a2+b*(a1+a2), b+(a1+a2), 1] := by
  show zmulP (polyL [[c, b, 1], [a1, 1]]) [a2, 1] = _
  rw [poly_ql, zmul_42]; exact l5 (by grind) (by grind) (by grind) (by grind) (by grind)
end
end Mine
end
section
open PySem PySem.W PyProof.Rows
namespace Mine
theorem g_name {M : Model} {A : Around} {E Q : Value → Shared → Prop} {s : Shared} {f a : Value} {x : Addr} (h : ∀ y, y = x → wpAny M A (call f [a, .ref y]) Q E s) : wpAny M A (call f [a, .ref x]) Q E s := h x rfl
theorem row_name {M : Model} {A : Around} {E : Value → Shared → Prop} {Q : Unit → Shared → Prop} {s : Shared} {env : Env} {n : Str} {x : Addr} (h : ∀ y, y = x → wpAny M A (storeName env n (.ref y)) Q E s) : wpAny M A (storeName env n (.ref x)) Q E s := h x rfl
theorem take_list {h₀ h : Heap} {L l : Addr} {news : List (Addr × Obj)} {its : List Value} {n : Nat} {xs : List Int} (N : News h₀ L h news) (hm : (l, listOf its.toArray n) ∈ news) (hi : IntsAre its xs) : ∃ its' n', IntsAre its' xs ∧ News h₀ L h [(l, listOf its'.toArray n')] :=
  ⟨its, n, hi, fun p hp => by rw [List.mem_singleton.mp hp]; exact N _ hm⟩
theorem news_one {h₀ h : Heap} {L l : Addr} {news : List (Addr × Obj)} {o : Obj} (N : News h₀ L h news) (hm : (l, o) ∈ news) : News h₀ L h [(l, o)] := fun p hp => by rw [List.mem_singleton.mp hp]; exact N _ hm
theorem news_pk {h₀ h : Heap} {L l : Addr} {rest : List (Addr × Obj)} {o : Obj} (N : News h₀ L h [(l, o)]) (R : News h₀ L h rest) : News h₀ L h ((l, o) :: rest) := fun p hp => by
  rcases List.mem_cons.mp hp with rfl | hp
  · exact N _ List.mem_cons_self
  · exact R p hp
noncomputable def IsL (p : Addr × Obj) : Prop := ∃ a n, p.2 = listOf a n
theorem lists_cons {l : Addr} {a : Array Value} {n : Nat} {rest : List (Addr × Obj)} (h : ∀ p ∈ rest, IsL p) : ∀ p ∈ (l, listOf a n) :: rest, IsL p := fun p hp => by
  rcases List.mem_cons.mp hp with rfl | hp
  · exact ⟨_, _, rfl⟩
  · exact h p hp
theorem lists_mat : ∀ {as : List Addr} {cs : List Cel}, ∀ p ∈ MatL as cs, IsL p
  | [], _, _, h => nomatch h
  | _ :: _, [], _, h => nomatch h
  | _ :: as, _ :: cs, p, h => by
    rcases List.mem_cons.mp h with rfl | h
    · exact ⟨_, _, rfl⟩
    · exact lists_mat (as := as) (cs := cs) p h
theorem off_kind {h₀ h : Heap} {L c : Addr} {o : Obj} {v₀ : Option Value} {rest : List (Addr × Obj)} (N : News h₀ L h ((c, o) :: rest)) (hd : o.data = .cell v₀) (hk : ∀ p ∈ rest, IsL p) : ∀ p ∈ rest, p.1 ≠ c := fun p hp e => by
  have h1 := (N (c, o) List.mem_cons_self).1
  have h2 := (N p (List.mem_cons_of_mem _ hp)).1
  obtain ⟨a, n, hp2⟩ := hk p hp
  rw [e] at h2
  have h3 : some o = some p.2 := h1.symm.trans h2
  rw [Option.some.inj h3, hp2] at hd
  cases hd
section
variable {M : Model} {A : Around} {E : Value → Shared → Prop} {s : Shared} {h₀ : Heap} {env : Env} {m : Str → Option Value}
theorem rowc_set {n : Str} {c L : Addr} {o : Obj} {v₀ : Option Value} {l : Addr} {led rest : List (Addr × Obj)} {Q : Unit → Shared → Prop} (F : Fr h₀ L s.heap m) (hE : env.locals = L) (hc : env.cells.lookup n = some c) (N : News h₀ L s.heap led) (ho : (c, o) ∈ led) (hd : o.data = .cell v₀)
    (N' : News h₀ L s.heap rest) (hL : ∀ p ∈ rest, IsL p) (hk : env.scope.kind = .function) (hl : env.kindOf n = some .cell)
    (h : ∀ h' o', o'.data = .cell (some (.ref l)) → Fr h₀ L h' m → News h₀ L h' ((c, o') :: rest) → (∀ p ∈ rest, p.1 ≠ c) → Q () { s with heap := h' }) :
    wpAny M A (storeName env n (.ref l)) Q E s := by
  subst hE
  have N2 := news_pk (news_one N ho) N'
  have off := off_kind N2 hd hL
  exact cell_set (.ref l) F N2 off hd hc rfl (fun h' o' d F' N3 => h h' o' d F' N3 off) hk hl
end
end Mine
namespace Mine
/-- a sign change -/
noncomputable def chG (row : List Int) (l : List Int) (k : Int) : List Int := if row.getD k.toNat 0 * row.getD (k + 1).toNat 0 < 0 then l ++ [1] else l
theorem chG_grows (row : List Int) : KPfGrows (chG row) := fun l k => by unfold chG; split <;> simp
theorem chG_yes {row l : List Int} {k : Int} (h : row.getD k.toNat 0 * row.getD (k + 1).toNat 0 < 0) : chG row l k = l ++ [1] := if_pos h
theorem chG_no {row l : List Int} {k : Int} (h : ¬ row.getD k.toNat 0 * row.getD (k + 1).toNat 0 < 0) : chG row l k = l := if_neg h
noncomputable def rtG (l xs : List Int) : List Int := if xs.length = 2 then l ++ [xs.getD 0 0] else l
noncomputable def roots2 (rows : List (List Int)) : List Int := rows.foldl rtG []
theorem rtG_two {l xs : List Int} (h : (xs.length : Int) = 2) : rtG l xs = l ++ [xs.getD (Int.toNat 0) 0] := by unfold rtG; rw [if_pos (by omega)]; rfl
theorem rtG_not {l xs : List Int} (h : ¬ (xs.length : Int) = 2) : rtG l xs = l := by unfold rtG; rw [if_neg (by omega)]
theorem row_sm {ts : List Int} (h : ∀ x ∈ ts, Bd 1000 x) (k : Nat) : Sm (([1] ++ ts).getD k 0) := by
  refine Bd.sm (k := 1000) (bd_getD (fun y hy => ?_) k) (by decide)
  rcases List.mem_append.mp hy with hy | hy
  · rw [List.mem_singleton.mp hy]
    exact Nat.one_lt_two_pow (by decide)
  · exact h y hy
section
variable {prog : Program} {w : World} {A : Around} {E : Value → Shared → Prop} {s : Shared}
theorem len_SJ {led : Bool} {l : List Int} {a : Addr} {Q : Value → Shared → Prop} (x : SJ prog w led l s.heap a) (h3 : l.length ≤ 3) (h : Q (.int (l.length : Nat) (s.toks + 1)) { s with toks := s.toks + 1 + 1 }) : wpAny (model prog w) A (call (.builtin "len") [.ref a]) Q E s := by
  obtain ⟨es, ep, ks, ⟨o, ho, hex, hd, _, _, hf⟩, hi, hp⟩ := x
  have e : es.size = l.length := by
    have h1 := hi.length
    rw [List.length_map, Array.length_toList] at h1
    rw [h1, hp.length_eq]
  refine call_len_set ho hex hd hf (by rw [e]; omega) ?_
  rw [e]; exact h
end
section
variable {prog : Program} {w : World} {A : Around} {E : Value → Shared → Prop} {s : Shared} {h₀ : Heap} {L : Addr}
theorem int_item {value slice : PySem.Expr} {a : Addr} {its : List Value} {xs : List Int} {n : Nat} {all : List (Addr × Obj)} {k : Int} {u : Tok} {Q : Value → Shared → Prop} (N : News h₀ L s.heap all) (hA : (a, listOf its.toArray n) ∈ all) (hi : IntsAre its xs)
    (h0 : 0 ≤ k) (h1 : k < (xs.length : Int)) (hfit : k < 2 ^ 63) (h : ∀ t, Q (.int (xs.getD k.toNat 0) t) s)
    (hs : subscripted slice false (.ref a) (.int k u) = operate [.ref a, .int k u] (getItem (.ref a) (.int k u)) := by with_unfolding_all rfl) :
    wpAny (model prog w) A (subscriptTail value slice (.ref a) (.int k u)) Q E s := by
  have hL : s.heap.IsList a its.toArray := ⟨_, (N _ hA).1, rfl, n, rfl⟩
  have hk : k.toNat < its.length := by have := hi.length; omega
  have e1 : its[k.toNat]? = some its[k.toNat] := List.getElem?_eq_getElem hk
  obtain ⟨t, ht⟩ := IntsAre.int_at hi k.toNat its[k.toNat] e1
  refine tail_any hL.typeIs slot_list_getitem.lookup (wpAny_getItem_list hL h0 hfit (x := its[k.toNat]) (by simp [hk]) ?_) hs
  rw [ht]; exact h t
end
/-- the sign changes along a row -/
noncomputable def changesP (row : List Int) (n : Nat) : List Int := (rangeKs 0 n).foldl (chG row) []
section
variable {prog : Program} {w : World} {A : Around} {h₀ : Heap} {L : Addr} {m : Str → Option Value} {env : Env} {ct elt : PySem.Expr} {x : Str} {scope : Scope} {cl : List (Str × Addr)} {s : Shared} {S : List (Addr × Obj) → Prop} {Fin : List Value → List (Addr × Obj) → Prop} {news : List (Addr × Obj)}
theorem comp_changes {n N : Nat} (row : List Int) (hn : n = N)
    (turn : ∀ k t I oI C oC D m₂ ys l h tk (E' : Value → Shared → Prop), 0 ≤ k → k < (N : Int) → IntsAre ys l → LCg.NsObj oC m₂ → m₂ x = some (.int k t) → Fr h₀ L h m → News h₀ L h ((I, oI) :: (C, oC) :: (D, LCg.lst ys) :: news) → LCg.Off3 I C D news → ((@Ne Nat I C) ∧ (@Ne Nat I D) ∧ (@Ne Nat C D)) →
      wpAny (model prog w) A (isTrue ct (compEnvC scope cl C env) (eval ct (compEnvC scope cl C env))) (fun b s' => if b = true then wpAny (model prog w) A (eval elt (compEnvC scope cl C env)) (LCg.CompEnd h₀ L m { s with heap := h, toks := tk } I oI C oC D (LCg.lst ys) S (fun y news' => KCiEl news l (chG row l k) y news')) E' s'
        else LCg.CompEnd h₀ L m { s with heap := h, toks := tk } I oI C oC D (LCg.lst ys) S (fun _ news' => KCiNo news l (chG row l k) news') Value.none s') E' { s with heap := h, toks := tk })
    (fin : ∀ ys cs, cs = changesP row N → IntsAre ys cs → cs.length ≤ N → Fin ys news) : LCt.CompRestT prog w A h₀ L m env ct elt x scope cl s S (fun i v => ∃ t, v = .int (0 + (i : Int)) t) Fin n 0 [] news := by
  subst hn
  exact kci_range (chG row) (fun k t I oI C oC D m₂ ys l h tk E' h1 h2 hy hC hx F N off ne _ => turn k t I oI C oC D m₂ ys l h tk E' h1 (by omega) hy hC hx F N off ne)
    (fun ys hy hl => fin ys _ rfl hy (Nat.le_trans (Nat.le_of_eq hy.length.symm) hl)) (chG_grows row)
theorem to0 (n : Nat) : (((n : Nat) : Int) - 0).toNat = n := by omega
theorem row_lt0 {ts : List Int} {k : Int} (h : k < (ts.length : Int)) : k < ((([1] : List Int) ++ ts).length : Int) := by
  rw [List.length_append, List.length_singleton]; omega
theorem row_lt1 {ts : List Int} {k : Int} (h : k < (ts.length : Int)) : k + 1 < ((([1] : List Int) ++ ts).length : Int) := by
  rw [List.length_append, List.length_singleton]; omega
theorem fit0 {ts : List Int} {k : Int} (h : k < (ts.length : Int)) (h5 : ts.length ≤ 5) : k < 2 ^ 63 := by omega
theorem fit1 {ts : List Int} {k : Int} (h : k < (ts.length : Int)) (h5 : ts.length ≤ 5) : k + 1 < 2 ^ 63 := by omega
theorem nn1 {k : Int} (h : 0 ≤ k) : 0 ≤ k + 1 := by omega
theorem part_lt {xs : List Int} (h : 2 ≤ xs.length ∧ xs.length ≤ 3) : (0 : Int) < (xs.length : Int) := by omega
theorem part_le {xs : List Int} (h : 2 ≤ xs.length ∧ xs.length ≤ 3) : xs.length ≤ 500 := by omega
theorem le500 {n m : Nat} (h : n ≤ m) (h5 : m ≤ 5) : n ≤ 500 := by omega
theorem int_min {l : Addr} {its : List Value} {ns : List Int} {n : Nat} {all : List (Addr × Obj)} {E Q : Value → Shared → Prop} (F : Fr h₀ L s.heap m) (N : News h₀ L s.heap all) (hA : (l, listOf its.toArray n) ∈ all) (hi : IntsAre its ns) (hne : 0 < ns.length) (hh : A.handled = none)
    (h : ∀ h' M (t : Tok) tk, Fr h₀ L h' m → News h₀ L h' all → M ∈ ns → (∀ a, a ∈ ns → M ≤ a) → Q (.int M t) { s with heap := h', toks := tk }) : wpAny (model prog w) A (call (.builtin "min") [.ref l]) Q E s :=
  kso_min F N ⟨_, (N _ hA).1, rfl, n, rfl⟩ hi hne hh h
theorem int_len {l : Addr} {its : List Value} {xs : List Int} {n : Nat} {all : List (Addr × Obj)} {E Q : Value → Shared → Prop} (N : News h₀ L s.heap all) (hA : (l, listOf its.toArray n) ∈ all) (hi : IntsAre its xs) (hx : xs.length ≤ 500)
    (h : Q (.int (xs.length : Int) (s.toks + 1)) { s with toks := s.toks + 1 + 1 }) : wpAny (model prog w) A (call (.builtin "len") [.ref l]) Q E s :=
  kst_len N hA hi.length (by omega) h
end
section
variable {prog : Program} {w : World} {A : Around} {h₀ : Heap} {L : Addr} {m : Str → Option Value} {s : Shared}
/-- a test that is false whatever way it goes, walked apart -/
noncomputable def CutP (s : Shared) (h₀ : Heap) (L : Addr) (m : Str → Option Value) (led : List (Addr × Obj)) (b : Bool) (s' : Shared) : Prop := b = false ∧ ∃ h' tk, s' = { s with heap := h', toks := tk } ∧ Fr h₀ L h' m ∧ News h₀ L h' led
theorem cut_bool {led : List (Addr × Obj)} {c : Sem Bool} {E : Value → Shared → Prop} {Q : Bool → Shared → Prop} (_F : Fr h₀ L s.heap m) (_N : News h₀ L s.heap led)
    (h1 : KstMark → wpAny (model prog w) A c (CutP s h₀ L m led) E s)
    (h2 : ∀ h' tk, Fr h₀ L h' m → News h₀ L h' led → Q false { s with heap := h', toks := tk }) : wpAny (model prog w) A c Q E s :=
  wpAny_mono (h1 kstMark) (fun b s' hq => by
    obtain ⟨rfl, h', tk, rfl, F, N⟩ := hq
    exact h2 h' tk F N) fun _ _ e => e
theorem cut_end {led led' : List (Addr × Obj)} {h' : Heap} {tk : Nat} (F : Fr h₀ L h' m) (N : News h₀ L h' led') (hs : ∀ p ∈ led, p ∈ led') : CutP s h₀ L m led false { s with heap := h', toks := tk } :=
  ⟨rfl, h', tk, rfl, F, fun p hp => N p (hs p hp)⟩
/-- a value that is a list of known ints, walked apart -/
noncomputable def CutV (s : Shared) (h₀ : Heap) (L : Addr) (m : Str → Option Value) (led : List (Addr × Obj)) (xs : List Int) (v : Value) (s' : Shared) : Prop := ∃ l its n h' tk, v = .ref l ∧ s' = { s with heap := h', toks := tk } ∧ IntsAre its xs ∧ Fr h₀ L h' m ∧ News h₀ L h' ((l, listOf its.toArray n) :: led)
theorem cut_val {led : List (Addr × Obj)} {c : Sem Value} {E : Value → Shared → Prop} {Q : Value → Shared → Prop} (xs : List Int) (_F : Fr h₀ L s.heap m) (_N : News h₀ L s.heap led)
    (h1 : KstMark → wpAny (model prog w) A c (CutV s h₀ L m led xs) E s)
    (h2 : ∀ l its n h' tk, IntsAre its xs → Fr h₀ L h' m → News h₀ L h' ((l, listOf its.toArray n) :: led) → Q (.ref l) { s with heap := h', toks := tk }) : wpAny (model prog w) A c Q E s :=
  wpAny_mono (h1 kstMark) (fun v s' hq => by
    obtain ⟨l, its, n, h', tk, rfl, rfl, hi, F, N⟩ := hq
    exact h2 l its n h' tk hi F N) fun _ _ e => e
theorem cutv_end {led led' : List (Addr × Obj)} {xs : List Int} {l : Addr} {its : List Value} {n : Nat} {h' : Heap} {tk : Nat} (F : Fr h₀ L h' m) (N : News h₀ L h' led') (hm : (l, listOf its.toArray n) ∈ led') (hi : IntsAre its xs) (hs : ∀ p ∈ led, p ∈ led') : CutV s h₀ L m led xs (.ref l) { s with heap := h', toks := tk } :=
  ⟨l, its, n, h', tk, rfl, rfl, hi, F, fun p hp => by
    rcases List.mem_cons.mp hp with rfl | hp
    · exact N _ hm
    · exact N p (hs p hp)⟩
theorem notin_split {l : Addr} {its : List Value} {ns : List Int} {n : Nat} {all : List (Addr × Obj)} {k : Int} {t : Tok} {E Q : Value → Shared → Prop} (N : News h₀ L s.heap all) (hA : (l, listOf its.toArray n) ∈ all) (hi : IntsAre its ns)
    (hp : k ∈ ns → Q (.bool false) s) (hn : ¬ k ∈ ns → Q (.bool true) s) : wpAny (model prog w) A (compareOp .NotIn (.int k t) (.ref l)) Q E s := by
  refine notin_list_ints ⟨_, (N _ hA).1, rfl, n, rfl⟩ hi ?_
  by_cases h : k ∈ ns
  · have e : (ns.any fun x => x == k) = true := List.any_eq_true.mpr ⟨k, h, by simp⟩
    rw [e]; exact hp h
  · have e : (ns.any fun x => x == k) = false := by
      rw [List.any_eq_false]
      intro x hx hb
      exact h ((beq_iff_eq.mp hb) ▸ hx)
    rw [e]; exact hn h
theorem ne_false {a b : Int} {t u : Tok} {E Q : Value → Shared → Prop} (e : a = b) (h : Q (.bool false) s) : wpAny (model prog w) A (compareOp .NotEq (.int a t) (.int b u)) Q E s := by
  refine ne_int ?_
  subst e
  simpa using h
theorem idx_use {cs row : List Int} {n N : Nat} {X : Int} (hcs : cs = changesP row n) (hn : n = N) (h : 2 * (((rangeKs 0 N).foldl (chG row) []).length : Int) = X) : 2 * (cs.length : Int) = X := by
  subst hcs hn; exact h
end
theorem fin_iff {ds : List Int} {M : Int} {k n : Nat} (hm : M ∈ ds) (hmin : ∀ a, a ∈ ds → M ≤ a) (hdf : (∀ x ∈ ds, 0 < x) ↔ k = n - 1) (h2 : 2 ≤ n) : 0 < M ↔ (k : Int) = (n : Int) - 1 := by
  constructor
  · intro h
    have := hdf.mp fun x hx => Int.lt_of_lt_of_le h (hmin x hx)
    omega
  · intro h
    exact (hdf.mpr (by omega)) M hm
theorem fin_eq {ds : List Int} {M : Int} {k n : Nat} (hm : M ∈ ds) (hmin : ∀ a, a ∈ ds → M ≤ a) (hdf : (∀ x ∈ ds, 0 < x) ↔ k = n - 1) (h2 : 2 ≤ n) : (decide (M > 0) == ((k : Int) == (n : Int) - 1)) = true := by
  have h := fin_iff hm hmin hdf h2
  by_cases hM : 0 < M
  · have hk := h.mp hM
    simp [hM, hk]
  · have hk : ¬ (k : Int) = (n : Int) - 1 := fun q => hM (h.mpr q)
    simp [hM, hk]
section
variable {prog : Program} {w : World} {A : Around} {s : Shared}
theorem eq_ints {a b : Int} {t u : Tok} {E Q : Value → Shared → Prop} (h : Q (.bool (a == b)) s) : wpAny (model prog w) A (compareOp .Eq (.int a t) (.int b u)) Q E s := eq_int h
theorem eq_true {a b : Bool} {E Q : Value → Shared → Prop} (e : (a == b) = true) (h : Q (.bool true) s) : wpAny (model prog w) A (compareOp .Eq (.bool a) (.bool b)) Q E s := by
  refine eq_bool ?_
  rw [e]; exact h
end
theorem law_end {cl : PySem.Str → Option Addr} {mean : ExcName → Option Value} {ns : List Int} {s₁ : Shared} {h' : Heap} {tk : Nat} {L : Addr} {m : Str → Option Value} (F : Fr s₁.heap L h' m) (hg : s₁.gens = #[]) :
    GoodW Challenge.rw_xm0088_01.row.claim cl mean [ofPy (PyData.list (List.map PyData.int ns))] s₁ (.ok (.ret (.bool true))) { s₁ with heap := h', toks := tk } :=
  goodW_bool F hg (raisesW_false (by wrow_none_raised)) (by wrow_post)
end Mine
end
section
open PySem PySem.W PyProof.Rows
namespace Mine
structure PlainMark : Prop where
structure NoConsMark : Prop where
structure KC (K Q : Flow → Shared → Prop) (P : Shared → Prop) : Prop where
  next : ∀ {s'}, P s' → K .next s'
  ret : ∀ {v s'}, Q (.ret v) s' → K (.ret v) s'
  brk : ∀ {s'}, Q .brk s' → K .brk s'
  cont : ∀ {s'}, Q .cont s' → K .cont s'
section
variable {prog : Program} {w : World} {M : Model} {A : Around} {E : Value → Shared → Prop} {hp h₀ : Heap} {gs : Array GenState} {dr : Drawn} {tk : Nat} {os : OsState} {L l a : Addr} {m : Str → Option Value} {cn : Str} {cs : Scope} {ccd v : Value} {cl : List (Str × Addr)} {x : Str} {pos : Pos} {news : List (Addr × Obj)}
theorem n_const {env : Env} {i : Int} {k : Nat} {Q : Value → Shared → Prop} (h : Q (.int i tk) ⟨hp, gs, dr, tk + 1, os⟩) : wpAny M A (eval (.Constant (.int i) k pos) env) Q E ⟨hp, gs, dr, tk, os⟩ := wpAny_Constant_int h
theorem n_add {b c : Int} {t u : Tok} {Q : Value → Shared → Prop} (h : Q (.int (b + c) tk) ⟨hp, gs, dr, tk + 1, os⟩) : wpAny (model prog w) A (binaryOp .Add (.int b t) (.int c u)) Q E ⟨hp, gs, dr, tk, os⟩ := PyProof.Rows.add_int h
theorem n_sub {b c : Int} {t u : Tok} {Q : Value → Shared → Prop} (h : Q (.int (b - c) tk) ⟨hp, gs, dr, tk + 1, os⟩) : wpAny (model prog w) A (binaryOp .Sub (.int b t) (.int c u)) Q E ⟨hp, gs, dr, tk, os⟩ := PyProof.Rows.sub_int h
theorem n_mul {b c : Int} {t u : Tok} {Q : Value → Shared → Prop} (h : Q (.int (b * c) tk) ⟨hp, gs, dr, tk + 1, os⟩) (hb : Sm b) (hc : Sm c) : wpAny (model prog w) A (binaryOp .Mult (.int b t) (.int c u)) Q E ⟨hp, gs, dr, tk, os⟩ := PyProof.Rows.mul_int h (mulOk_of hb hc)
theorem n_mulk {b c : Int} {t u : Tok} {Q : Value → Shared → Prop} (h : Q (.int (b * c) tk) ⟨hp, gs, dr, tk + 1, os⟩) (hm : IntMulOk b c) : wpAny (model prog w) A (binaryOp .Mult (.int b t) (.int c u)) Q E ⟨hp, gs, dr, tk, os⟩ := PyProof.Rows.mul_int h hm
theorem n_neg {b : Int} {t : Tok} {Q : Value → Shared → Prop} (h : Q (.int (-b) tk) ⟨hp, gs, dr, tk + 1, os⟩) : wpAny (model prog w) A (unaryOp .USub (.int b t)) Q E ⟨hp, gs, dr, tk, os⟩ := PyProof.Rows.neg_int h
theorem n_mod {b c : Int} {t u : Tok} {Q : Value → Shared → Prop} (hb : c ≠ 0) (h : Q (.int (b.fmod c) tk) ⟨hp, gs, dr, tk + 1, os⟩) : wpAny (model prog w) A (binaryOp .Mod (.int b t) (.int c u)) Q E ⟨hp, gs, dr, tk, os⟩ := PyProof.Rows.mod_int' hb h
theorem n_pow {b c : Int} {t u : Tok} {Q : Value → Shared → Prop} (hn : 0 ≤ c) (hs : Sm b) (hc : c ≤ 1000) (h : Q (.int (b ^ c.toNat) tk) ⟨hp, gs, dr, tk + 1, os⟩) : wpAny (model prog w) A (binaryOp .Pow (.int b t) (.int c u)) Q E ⟨hp, gs, dr, tk, os⟩ := PyProof.Rows.pow_int hn (powSz hs hn hc) h
theorem n_fdiv {b c : Int} {t u : Tok} {Q : Value → Shared → Prop} (hc : DivOk c) (h : Q (.int (b.fdiv c) tk) ⟨hp, gs, dr, tk + 1, os⟩) : wpAny (model prog w) A (binaryOp .FloorDiv (.int b t) (.int c u)) Q E ⟨hp, gs, dr, tk, os⟩ := PyProof.Rows.floordiv_int (DivOk.ne hc) h (Or.inl (DivOk.pylong hc))
theorem n_store {Q : Unit → Shared → Prop} (F : Fr h₀ L hp m) (N : News h₀ L hp news)
    (h : ∀ h' tk', let m' : Str → Option Value := fun y => if y = x then some v else m y; Fr h₀ L h' m' → News h₀ L h' news → Q () ⟨h', gs, dr, tk', os⟩)
    (hk : cs.kind = .function) (hx : cs.names.lookup x = some .local) : wpAny M A (storeName (envOf cn cs L a ccd) x v) Q E ⟨hp, gs, dr, tk, os⟩ :=
  storeX_L (cl := []) F N (fun h' F' N' => h h' _ F' N') hk hx
theorem n_storeP {Q : Unit → Shared → Prop} (F : Fr h₀ L hp m) (N : News h₀ L hp news)
    (h : ∀ h' tk', Fr h₀ L h' (fun y => if y = x then some v else m y) → News h₀ L h' news → Q () ⟨h', gs, dr, tk', os⟩)
    (hk : cs.kind = .function) (hx : cs.names.lookup x = some .local) : wpAny M A (storeName (envOf cn cs L a ccd) x v) Q E ⟨hp, gs, dr, tk, os⟩ :=
  storeX_L (cl := []) F N (fun h' F' N' => h h' _ F' N') hk hx
theorem n_storeC {Q : Unit → Shared → Prop} (F : Fr h₀ L hp m) (N : News h₀ L hp news)
    (h : ∀ h' tk', let m' : Str → Option Value := fun y => if y = x then some v else m y; Fr h₀ L h' m' → News h₀ L h' news → Q () ⟨h', gs, dr, tk', os⟩)
    (hk : cs.kind = .function) (hx : cs.names.lookup x = some .local) : wpAny M A (storeName (envOfC cn cs L a ccd) x v) Q E ⟨hp, gs, dr, tk, os⟩ :=
  storeX_L (cl := cellsFrom (L + 1) cs.names []) F N (fun h' F' N' => h h' _ F' N') hk hx
theorem n_name {s : Shared} {Q : Value → Shared → Prop} (F : Fr h₀ L s.heap m) (hv : m x = some v) (h : Q v s) (hk : cs.kind = .function) (hx : cs.names.lookup x = some .local) (hd : (x == ("__debug__" : Str)) = false) :
    wpAny M A (eval (.Name x pos) (envOf cn cs L a ccd)) Q E s := nameX_L (cl := []) F hv h hk hx hd
theorem n_nameC {s : Shared} {Q : Value → Shared → Prop} (F : Fr h₀ L s.heap m) (hv : m x = some v) (h : Q v s) (hk : cs.kind = .function) (hx : cs.names.lookup x = some .local) (hd : (x == ("__debug__" : Str)) = false) :
    wpAny M A (eval (.Name x pos) (envOfC cn cs L a ccd)) Q E s := nameX_L (cl := cellsFrom (L + 1) cs.names []) F hv h hk hx hd
theorem n_newList {vs : List Value} {Q : Value → Shared → Prop} (F : Fr h₀ L hp m) (N : News h₀ L hp news)
    (h : ∀ l h', Fr h₀ L h' m → News h₀ L h' ((l, listOf vs.toArray 0) :: news) → (∀ p ∈ news, p.1 < l) → Q (.ref l) ⟨h', gs, dr, tk, os⟩) (hsz : vs.length ≤ sizeLine) : wpAny M A (newList vs) Q E ⟨hp, gs, dr, tk, os⟩ := newList_K F N h hsz
theorem n_newTuple {vs : List Value} {Q : Value → Shared → Prop} (F : Fr h₀ L hp m) (N : News h₀ L hp news)
    (h : ∀ D h', Fr h₀ L h' m → News h₀ L h' ((D, ({ cls := .type "tuple", data := .seq vs.toArray } : Obj)) :: news) → (∀ p ∈ news, p.1 < D) → Q (.ref D) ⟨h', gs, dr, tk, os⟩) (hz : vs.length ≤ sizeLine) : wpAny M A (newTuple vs) Q E ⟨hp, gs, dr, tk, os⟩ := kup_newTuple F N h hz
theorem n_len {us : List Value} {xs : List Int} {c : Nat} {Q : Value → Shared → Prop} (N : News h₀ L hp news) (hm : (l, listOf us.toArray c) ∈ news) (e : IntsAre us xs) (hfit : (xs.length : Int) < 2 ^ 63)
    (h : Q (.int (xs.length : Int) (tk + 1)) ⟨hp, gs, dr, tk + 1 + 1, os⟩) : wpAny (model prog w) A (call (.builtin "len") [.ref l]) Q E ⟨hp, gs, dr, tk, os⟩ := kst_len N hm e.length hfit h
theorem m_let {h : Heap} {G : Prop} (F : Fr h₀ L h m) (k : let m' : Str → Option Value := m; Fr h₀ L h m' → G) : G := k F
theorem n_cons {env : Env} {st : Stmt} {rest : List Stmt} {s : Shared} {Q : Flow → Shared → Prop} (h : ∀ K : Flow → Shared → Prop, KC K Q (wpAny M A (execs rest env) Q E) → wpAny M A (exec st env) K E s) : wpAny M A (execs (st :: rest) env) Q E s :=
  wpAny_execs_cons (h _ ⟨fun h => h, fun h => h, fun h => h, fun h => h⟩)
theorem wp_id {α : Type} {t : Sem α} {Q : α → Shared → Prop} {s : Shared} (h : wpAny M A t Q E s) : wpAny M A t Q E s := h
theorem tk_any {α : Type} {t : Sem α} {Q : α → Shared → Prop} (h : ∀ tk', wpAny M A t Q E ⟨hp, gs, dr, tk', os⟩) : wpAny M A t Q E ⟨hp, gs, dr, tk, os⟩ := h tk
end
end Mine
end
section
open PySem PySem.W PyProof.Rows
namespace Mine
local macro_rules | `(tactic| walk_at $s:str) => do
  let t := Lean.Syntax.mkStrLit ("L " ++ s.getString)
  `(tactic| k_extra $t)
theorem wordsL1 : True := by
  k_with "L call ref" => (k_here; k_dflt (refine' con_useI ?wqk1 ?wqk2 ?wqk3 ?wqk4 ?wqk5 ?wqkK ?wqhc ?wqkd ?wqku ?_; (case wqk1 => k_asm); (case wqk2 => k_asm); (case wqk3 => k_asm); (case wqk4 => k_asm); (case wqk5 => k_asm); (case wqkK => first | exact rfl | assumption); (case wqhc => walk_at "conI"); (case wqkd => ktr_room); (case wqku => ktr_units); intro t_w' h_w' tk_w' F_w' N_w'; (try dsimp only); (walk_at "kfold")))
  k_with "L call ref" => (k_here; k_dflt (refine' con_useL ?wqk1 ?wqk2 ?wqk3 ?wqk4 ?wqk5 ?wqkK ?wqhc ?wqkd ?wqku ?_; (case wqk1 => k_asm); (case wqk2 => k_asm); (case wqk3 => k_asm); (case wqk4 => k_asm); (case wqk5 => k_asm); (case wqkK => first | exact rfl | assumption); (case wqhc => walk_at "conL"); (case wqkd => ktr_room); (case wqku => ktr_units); intro l_w' its_w' n_w' h_w' tk_w' hi_w' F_w' N_w' l1_w'; (replace l1_w' := off1_of l1_w'); (try simp only [LCg.Off1, and_true] at l1_w'); (try dsimp only); (walk_at "kfold")))
  k_with "end_sub" => (intro p9_w hp9_w; kst_mem)
  k_with "enterC" => (refine wpAny_call ?_; k_dflt (refine' code_defC ?wqk1 ?wqk2 ?wqk3 ?wqk4 ?wqk5 ?wqkA ?wqkF ?wqkK ?wqk6 ?wqk7 ?wqk8 ?wqk9 ?wqkB ?wqkD ?_ ?wqc2 ?wqc3 ?wqc4; (case wqkA => exact rfl); (case wqkF => exact rfl); (case wqkK => assumption); (case wqk1 => k_asm); (case wqk2 => k_asm); (case wqk3 => k_asm); (case wqk4 => k_asm); (case wqk5 => k_asm); (case wqk6 => k_is); (case wqk7 => k_is); (case wqk8 => ktr_room); (case wqk9 => exact BindsTo.of_eq rfl); (case wqkB => exact rfl); (case wqkD => decide +kernel); (case wqc2 => exact rfl); (case wqc3 => exact rfl); (case wqc4 => exact rfl); k_whole; intro g_w' L_w' h_w' tk_w' cells_w' FG_w' F_w' N_w' Y_w' B_w' X_w' T_w' l1_w; (have lc1_w := cell_ne1 l1_w); (have lc2_w := cell_ne2 l1_w); (have lc3_w := cell_ne3 l1_w); (try simp only [LCg.Off1, and_true] at lc1_w lc2_w lc3_w); (try k_lt l1_w); k_cells Y_w'; (try simp only [List.cons_append, List.nil_append] at N_w'); (try dsimp only); (walk_at "kfold"); walk_at "mfold"))
  k_with "L eval ListComp" => (k_here; (with_reducible show wpAny _ _ (PySem.eval (PySem.Expr.ListComp _ [PySem.Comprehension.mk (PySem.Expr.Name _ _) _ [] 0] _ _) _) _ _ _); k_dflt (refine LCg.ListComp_U (F₀ := by k_asm) (by with_unfolding_all rfl) (by decide) (by rfl) (by decide) (by rfl) ?_))
  trivial
theorem off_ne1 {a0 : Prop} {D : Addr} {l : List (Addr × Obj)} (h : a0 ∧ LCg.Off1 D l) : ∀ p ∈ l, p.1 ≠ D := off1_ne h.2
theorem ltl_ne1 {a0 : Prop} {D : Addr} {l : List (Addr × Obj)} (h : a0 ∧ AllLt D l) : ∀ p ∈ l, p.1 ≠ D := lt_ne h.2
theorem off_ne2 {a0 a1 : Prop} {D : Addr} {l : List (Addr × Obj)} (h : a0 ∧ a1 ∧ LCg.Off1 D l) : ∀ p ∈ l, p.1 ≠ D := off1_ne h.2.2
theorem ltl_ne2 {a0 a1 : Prop} {D : Addr} {l : List (Addr × Obj)} (h : a0 ∧ a1 ∧ AllLt D l) : ∀ p ∈ l, p.1 ≠ D := lt_ne h.2.2
theorem off_ne3 {a0 a1 a2 : Prop} {D : Addr} {l : List (Addr × Obj)} (h : a0 ∧ a1 ∧ a2 ∧ LCg.Off1 D l) : ∀ p ∈ l, p.1 ≠ D := off1_ne h.2.2.2
theorem ltl_ne3 {a0 a1 a2 : Prop} {D : Addr} {l : List (Addr × Obj)} (h : a0 ∧ a1 ∧ a2 ∧ AllLt D l) : ∀ p ∈ l, p.1 ≠ D := lt_ne h.2.2.2
theorem off_ne4 {a0 a1 a2 a3 : Prop} {D : Addr} {l : List (Addr × Obj)} (h : a0 ∧ a1 ∧ a2 ∧ a3 ∧ LCg.Off1 D l) : ∀ p ∈ l, p.1 ≠ D := off1_ne h.2.2.2.2
theorem ltl_ne4 {a0 a1 a2 a3 : Prop} {D : Addr} {l : List (Addr × Obj)} (h : a0 ∧ a1 ∧ a2 ∧ a3 ∧ AllLt D l) : ∀ p ∈ l, p.1 ≠ D := lt_ne h.2.2.2.2
theorem off_ne5 {a0 a1 a2 a3 a4 : Prop} {D : Addr} {l : List (Addr × Obj)} (h : a0 ∧ a1 ∧ a2 ∧ a3 ∧ a4 ∧ LCg.Off1 D l) : ∀ p ∈ l, p.1 ≠ D := off1_ne h.2.2.2.2.2
theorem ltl_ne5 {a0 a1 a2 a3 a4 : Prop} {D : Addr} {l : List (Addr × Obj)} (h : a0 ∧ a1 ∧ a2 ∧ a3 ∧ a4 ∧ AllLt D l) : ∀ p ∈ l, p.1 ≠ D := lt_ne h.2.2.2.2.2
theorem off_ne6 {a0 a1 a2 a3 a4 a5 : Prop} {D : Addr} {l : List (Addr × Obj)} (h : a0 ∧ a1 ∧ a2 ∧ a3 ∧ a4 ∧ a5 ∧ LCg.Off1 D l) : ∀ p ∈ l, p.1 ≠ D := off1_ne h.2.2.2.2.2.2
theorem ltl_ne6 {a0 a1 a2 a3 a4 a5 : Prop} {D : Addr} {l : List (Addr × Obj)} (h : a0 ∧ a1 ∧ a2 ∧ a3 ∧ a4 ∧ a5 ∧ AllLt D l) : ∀ p ∈ l, p.1 ≠ D := lt_ne h.2.2.2.2.2.2
theorem off_ne7 {a0 a1 a2 a3 a4 a5 a6 : Prop} {D : Addr} {l : List (Addr × Obj)} (h : a0 ∧ a1 ∧ a2 ∧ a3 ∧ a4 ∧ a5 ∧ a6 ∧ LCg.Off1 D l) : ∀ p ∈ l, p.1 ≠ D := off1_ne h.2.2.2.2.2.2.2
theorem ltl_ne7 {a0 a1 a2 a3 a4 a5 a6 : Prop} {D : Addr} {l : List (Addr × Obj)} (h : a0 ∧ a1 ∧ a2 ∧ a3 ∧ a4 ∧ a5 ∧ a6 ∧ AllLt D l) : ∀ p ∈ l, p.1 ≠ D := lt_ne h.2.2.2.2.2.2.2
theorem off_ne8 {a0 a1 a2 a3 a4 a5 a6 a7 : Prop} {D : Addr} {l : List (Addr × Obj)} (h : a0 ∧ a1 ∧ a2 ∧ a3 ∧ a4 ∧ a5 ∧ a6 ∧ a7 ∧ LCg.Off1 D l) : ∀ p ∈ l, p.1 ≠ D := off1_ne h.2.2.2.2.2.2.2.2
theorem ltl_ne8 {a0 a1 a2 a3 a4 a5 a6 a7 : Prop} {D : Addr} {l : List (Addr × Obj)} (h : a0 ∧ a1 ∧ a2 ∧ a3 ∧ a4 ∧ a5 ∧ a6 ∧ a7 ∧ AllLt D l) : ∀ p ∈ l, p.1 ≠ D := lt_ne h.2.2.2.2.2.2.2.2
theorem off_ne9 {a0 a1 a2 a3 a4 a5 a6 a7 a8 : Prop} {D : Addr} {l : List (Addr × Obj)} (h : a0 ∧ a1 ∧ a2 ∧ a3 ∧ a4 ∧ a5 ∧ a6 ∧ a7 ∧ a8 ∧ LCg.Off1 D l) : ∀ p ∈ l, p.1 ≠ D := off1_ne h.2.2.2.2.2.2.2.2.2
theorem ltl_ne9 {a0 a1 a2 a3 a4 a5 a6 a7 a8 : Prop} {D : Addr} {l : List (Addr × Obj)} (h : a0 ∧ a1 ∧ a2 ∧ a3 ∧ a4 ∧ a5 ∧ a6 ∧ a7 ∧ a8 ∧ AllLt D l) : ∀ p ∈ l, p.1 ≠ D := lt_ne h.2.2.2.2.2.2.2.2.2
theorem wordsL2 : True := by
  k_with "ne_and" => first | with_reducible assumption | exact lt_ne (by with_reducible assumption) | exact off1_ne (by with_reducible assumption) | exact off_ne1 (by with_reducible assumption) | exact ltl_ne1 (by with_reducible assumption) | exact off_ne2 (by with_reducible assumption) | exact ltl_ne2 (by with_reducible assumption) | exact off_ne3 (by with_reducible assumption) | exact ltl_ne3 (by with_reducible assumption) | exact off_ne4 (by with_reducible assumption) | exact ltl_ne4 (by with_reducible assumption) | exact off_ne5 (by with_reducible assumption) | exact ltl_ne5 (by with_reducible assumption) | exact off_ne6 (by with_reducible assumption) | exact ltl_ne6 (by with_reducible assumption) | exact off_ne7 (by with_reducible assumption) | exact ltl_ne7 (by with_reducible assumption) | exact off_ne8 (by with_reducible assumption) | exact ltl_ne8 (by with_reducible assumption) | exact off_ne9 (by with_reducible assumption) | exact ltl_ne9 (by with_reducible assumption)
  k_with "end_ne" => first | walk_at "ne_and" | ((repeat (rename _ ∧ _ => h9; cases h9)); first | assumption | exact lt_ne (by assumption) | exact off1_ne (by assumption))
  k_with "L CompSrc" => (k_here; (try k_fmods); (try kcf_lens); k_dflt (first
      | (refine LCg.CompSrc.range (by rfl) (by k_asm) (by k_asm) (by assumption) (by first | exact small_one (by kcf_bnd) (by kcf_bnd) (by kcf_bnd) (by kcf_bnd) | decide) (by first | exact rangeSize_nat _ _ | rfl) (by first | exact Nat.le_of_ble_eq_true rfl | (rw [PySem.sizeLine_eq]; first | omega | ((simp only [List.size_toArray]); omega)) | size_fits) ?_; intro g_w'; (first | k_extra "compR" | refine' kcf_range _ (fun k_w' t_w' I_w' oI_w' C_w' oC_w' D_w' m_w' ys_w' h_w' tk_w' E_w' hlo_w' hhi_w' hC_w' hx_w' F_w' N_w' off_w' ne_w' hMark_w' => ?_) ?_); (all_goals (try (simp only [LCg.Off3, and_true] at off_w'))); kcf_last)
      | (refine LCg.CompSrc.ledger (by rfl) (by k_asm) (by k_asm) (by k_mem) (by kcf_size) ?_; intro g_w'; (first | k_extra "compL" | refine' kcf_list _ (by first | assumption | l_ints) (fun k_w' t_w' I_w' oI_w' C_w' oC_w' D_w' m_w' ys_w' h_w' tk_w' E_w' hk_w' hC_w' hx_w' F_w' N_w' off_w' ne_w' hMark_w' => ?_) ?_); (all_goals (try (simp only [LCg.Off3, and_true] at off_w'))); kcf_last)))
  k_with "L call ref" => (k_here; k_dflt (refine' con_useN ?wqk1 ?wqk2 ?wqk3 ?wqk4 ?wqk5 ?wqkK ?wqhc ?wqkd ?wqku ?_; (case wqk1 => k_asm); (case wqk2 => k_asm); (case wqk3 => k_asm); (case wqk4 => k_asm); (case wqk5 => k_asm); (case wqkK => first | exact rfl | assumption); (case wqhc => walk_at "conN"); (case wqkd => ktr_room); (case wqku => ktr_units); intro h_w' tk_w' F_w' N_w'; (try dsimp only); (walk_at "kfold")))
  k_with "L call type:enumerate" => (k_here; k_extra "enum")
  k_with "L exec While Compare cons nil" => (k_here; k_extra "while")
  k_with "WPost" => (dsimp only [WPost])
  k_with "wend" => (refine' wend_intro (ks := [_]) (vs := [_]) ?wqF ?wqN ?wqh1 ?wqh2 rfl ?wqh4 ?wqm1 ?wqm2 ?wqhs ?wqi1 ?wqi2 ?wqi3 ?wqhz ?_; (case wqF => assumption); (case wqh1 => exact rfl); (case wqh2 => exact rfl); (case wqh4 => kst_all); (case wqN => k_asm); (case wqm1 => k_mem); (case wqm2 => k_mem); (case wqhs => (intro p9_w hp9_w; kst_mem)); (case wqi1 => assumption); (case wqi2 => assumption); (case wqi3 => exact .cons _ _ .nil); (case wqhz => (intro z_w h1_w h2_w h3_w h4_w; simp only [List.mem_cons, List.not_mem_nil, or_false, forall_eq_or_imp, forall_eq, List.contains_cons, List.contains_nil, Bool.or_false, Bool.or_eq_false_iff, beq_eq_false_iff_ne, ne_eq] at h1_w h2_w h3_w h4_w; simp +zetaDelta [kstB, h1_w, h2_w, h3_w, h4_w])))
  k_with "wN" => (refine kst_newsOf (by assumption) ?_; refine List.forall_mem_cons.mpr ⟨by k_mem, List.forall_mem_cons.mpr ⟨by k_mem, ?_⟩⟩; (intro p9_w hp9_w; kst_mem))
  k_with "ci" => first | (with_reducible assumption) | assumption | exact .cons _ _ .nil | exact .nil | l_ints
  k_with "con_size" => first | assumption | omega | ((simp only [List.length_append, List.length_map, List.length_cons, List.length_nil, List.length_replicate, rangeKs_length]); omega) | exact Nat.lt_of_le_of_lt (zscaleP_length_le _ _) (by omega) | exact Nat.lt_of_le_of_lt (zraiseP_length_le _ _) (by simp only [List.length_cons, List.length_nil]; omega) | exact Nat.lt_of_le_of_lt (zraiseP_length_le _ _) (Nat.lt_of_le_of_lt (Nat.add_le_add_left (zscaleP_length_le _ _) _) (by omega)) | k_extra "size"
  trivial
local macro_rules | `(tactic| k_all) => `(tactic| first | walk_at "ne_and" | ((repeat (rename _ ∧ _ => h9; cases h9)); first | exact off1_ne (by assumption) | exact lt_ne (by assumption)))
theorem wordsL3 : True := by
  k_with "L eval ListComp" => (k_here; (with_reducible show wpAny _ _ (PySem.eval (PySem.Expr.ListComp _ [PySem.Comprehension.mk (PySem.Expr.Tuple _ _ _) _ [] 0] _ _) _) _ _ _); k_dflt (refine ListComp_enum (by k_asm) (by with_unfolding_all rfl) (by decide) (by rfl) (by decide) (by rfl) (by rfl) (by decide) ?_))
  k_with "L pyIter ref" => (k_here; k_extra "loop")
  k_with "RevPost" => (dsimp only [RevPost])
  k_with "m_memR" => first | (with_reducible exact List.mem_cons_self) | (with_reducible assumption) | ((with_reducible refine List.mem_cons_of_mem _ ?_); walk_at "m_memR") | ((with_reducible refine List.mem_append.mpr (Or.inl ?_)); walk_at "m_memR") | ((with_reducible refine List.mem_append.mpr (Or.inr ?_)); walk_at "m_memR")
  k_with "L subscriptTail Name" => (k_here; (with_reducible show wpAny _ _ (subscriptTail _ _ (Value.ref _) (Value.int _ _)) _ _ _); k_dflt (refine' ksa_sub ?wqk1 ?wqk2 ?wqk3 ?wqk4 ?wqk5 ?wqk6 ?_ ?wqk7; (case wqk1 => k_asm); (case wqk2 => walk_at "m_memR"); (case wqk3 => with_reducible assumption); (case wqk4 => ksa_idx); (case wqk5 => ksa_idx); (case wqk6 => ksa_idx); (case wqk7 => with_unfolding_all rfl); k_whole); intro _)
  k_with "L subscriptTail Subscript" => (k_here; (with_reducible show wpAny _ _ (subscriptTail _ _ (Value.ref _) (Value.int _ _)) _ _ _); k_dflt (refine' ksa_sub ?wqk1 ?wqk2 ?wqk3 ?wqk4 ?wqk5 ?wqk6 ?_ ?wqk7; (case wqk1 => k_asm); (case wqk2 => walk_at "m_memR"); (case wqk3 => with_reducible assumption); (case wqk4 => ksa_idx); (case wqk5 => ksa_idx); (case wqk6 => ksa_idx); (case wqk7 => with_unfolding_all rfl); k_whole); intro _)
  k_with "L subscriptTail Name Name ref int" => (k_here; (with_reducible show wpAny _ _ (subscriptTail _ _ (Value.ref _) (Value.int _ _)) _ _ _); k_dflt (refine' row_item ?wqk1 ?wqk2 ?wqk3 ?wqk4 ?wqk5 ?wqk6 ?wqk7 ?_ ?wqk8; (case wqk1 => k_asm); (case wqk2 => walk_at "m_memR"); (case wqk3 => with_reducible assumption); (case wqk4 => with_reducible assumption); (case wqk5 => omega); (case wqk6 => omega); (case wqk7 => omega); (case wqk8 => with_unfolding_all rfl)); intro r_w' its_w' xs_w' nn_w' e1_w' e2_w' hm_w' hi_w' hx_w' hl_w'; (try (replace hm_w' := matL_to (by assumption) hm_w')); (try (have hxl_w' := row_len (by assumption) hx_w' (by assumption) (by omega) (by omega))))
  k_with "L call builtin:len" => (k_here; (with_reducible show wpAny _ _ (PySem.call (Value.builtin "len") [Value.ref _]) _ _ _); k_dflt (refine' n_len ?wqk1 ?wqk2 ?wqk3 ?wqk4 ?_; (case wqk1 => k_asm); (case wqk2 => walk_at "m_memR"); (case wqk3 => with_reducible assumption); (case wqk4 => omega)))
  k_with "L call builtin:len" => (k_here; (with_reducible show wpAny _ _ (PySem.call (Value.builtin "len") [Value.ref _]) _ _ _); k_dflt (refine' mat_len ?wqk1 ?wqk2 ?wqk3 ?_; (case wqk1 => k_asm); (case wqk2 => walk_at "m_memR"); (case wqk3 => with_reducible assumption)))
  k_with "m_mem" => first | exact List.mem_cons_self | assumption | (refine List.mem_cons_of_mem _ ?_; walk_at "m_mem") | (refine List.mem_append.mpr (Or.inl ?_); walk_at "m_mem") | (refine List.mem_append.mpr (Or.inr ?_); walk_at "m_mem")
  trivial
local macro_rules | `(tactic| k_mem) => `(tactic| first | walk_at "m_memR" | walk_at "m_mem")
theorem wordsL4 : True := by
  k_with "sub_all" => first | exact List.forall_mem_nil _ | (refine List.forall_mem_cons.mpr ⟨by walk_at "m_mem", ?_⟩; walk_at "sub_all") | (intro p9_w hp9_w; walk_at "m_mem")
  k_with "m_same" => (intro z_w h1_w h2_w h3_w; (try simp only [List.contains_cons, List.contains_nil, Bool.or_false, Bool.or_eq_false_iff, beq_eq_false_iff_ne, ne_eq] at h3_w); (try simp only [List.forall_mem_cons, List.not_mem_nil, false_implies, implies_true, and_true, ne_eq] at h2_w); first | rfl | (simp +zetaDelta [kstB, h1_w]; done) | (simp +zetaDelta [kstB, h1_w, h3_w]; done) | (simp +zetaDelta [kstB, h1_w, h2_w, h3_w]; done))
  k_with "MPost" => (dsimp only [MPost])
  k_with "notin" => first | assumption | exact not_in_append (by walk_at "notin") (by walk_at "notin")
  k_with "L setItem ref int" => (k_here; (with_reducible show wpAny _ _ (setItem (Value.ref _) (Value.int _ _) (Value.int _ _)) _ _ _); k_dflt (refine' row_set ?wqF ?wqN ?wqhnd ?wqha ?wqhr ?wqe1 ?wqe2 ?wqhi ?wqh0 ?wqh1 ?wqhf ?_; (case wqF => k_asm); (case wqN => k_asm); (case wqhnd => assumption); (case wqha => assumption); (case wqhr => walk_at "notin"); (case wqe1 => assumption); (case wqe2 => assumption); (case wqhi => assumption); (case wqh0 => omega); (case wqh1 => omega); (case wqhf => omega)); intro h_w' F_w' N_w')
  k_with "m_keep" => (intro z_w h1_w h3_w; (try simp only [List.contains_cons, List.contains_nil, Bool.or_false, Bool.or_eq_false_iff, beq_eq_false_iff_ne, ne_eq] at h3_w); first | rfl | (simp +zetaDelta [h1_w]; done) | (simp +zetaDelta [h1_w, h3_w]; done))
  k_with "L eval Constant int" => with_reducible refine n_const ?_
  k_with "L binaryOp Add int int" => with_reducible refine n_add ?_
  k_with "L binaryOp Sub int int" => with_reducible refine n_sub ?_
  k_with "L unaryOp USub int" => with_reducible refine n_neg ?_
  k_with "L binaryOp Mult int int" => first | (with_reducible refine' n_mul ?_ ?wqa ?wqb; (case wqa => (k_dflt (k_extra "sm"))); (case wqb => (k_dflt (k_extra "sm")))) | (with_reducible refine' n_mulk ?_ ?wqhm; (case wqhm => (k_dflt (k_extra "mulok"))))
  k_with "L binaryOp Pow int int" => (with_reducible refine' n_pow ?wqhn ?wqa ?wqc ?_; (case wqhn => (k_dflt (k_extra "pow0"))); (case wqa => (k_dflt (k_extra "sm"))); (case wqc => (k_dflt (k_extra "powle"))))
  k_with "L binaryOp FloorDiv int int" => (with_reducible refine' n_fdiv ?wqa ?_; (case wqa => (k_dflt (k_extra "divok"))))
  k_with "L eval Name" => (k_here; first | ((with_reducible refine' n_name ?wqF ?wqv ?_ ?wqa ?wqb ?wqc); (case wqF => k_dflt k_asm); (case wqa => exact rfl); (case wqb => k_dflt (exact rfl)); (case wqc => decide); (case wqv => k_dflt (exact Eq.refl (some _))); k_whole) | ((with_reducible refine' n_nameC ?wqF ?wqv ?_ ?wqa ?wqb ?wqc); (case wqF => k_dflt k_asm); (case wqa => exact rfl); (case wqb => k_dflt (exact rfl)); (case wqc => decide); (case wqv => k_dflt (exact Eq.refl (some _))); k_whole))
  k_with "L storeName" => (k_here; first | ((with_reducible rename PlainMark => hP9); (with_reducible refine' n_storeP ?wqF ?wqN ?_ ?wqa ?wqb); (case wqF => k_dflt k_asm); (case wqN => k_dflt k_asm); (case wqa => exact rfl); (case wqb => k_dflt (exact rfl)); k_whole; intro h_w' tk_w' F_w' N_w'; (try k_sweep)) | ((with_reducible refine' n_store ?wqF ?wqN ?_ ?wqa ?wqb); (case wqF => k_dflt k_asm); (case wqN => k_dflt k_asm); (case wqa => exact rfl); (case wqb => k_dflt (exact rfl)); k_whole; intro h_w' tk_w' m_w' F_w' N_w'; (try k_sweep)) | ((with_reducible refine' n_storeC ?wqF ?wqN ?_ ?wqa ?wqb); (case wqF => k_dflt k_asm); (case wqN => k_dflt k_asm); (case wqa => exact rfl); (case wqb => k_dflt (exact rfl)); k_whole; intro h_w' tk_w' m_w' F_w' N_w'; (try k_sweep)))
  k_with "L newList" => (k_here; k_dflt (refine' n_newList ?wqk1 ?wqk2 ?_ ?wqk3; (case wqk1 => k_asm); (case wqk2 => k_asm); (case wqk3 => size_fits); k_whole); intro l_w' h_w' F_w' N_w' l1_w; (try k_lt l1_w); (try k_sweep))
  k_with "L newTuple" => (k_here; kup_bare; k_dflt (refine' n_newTuple ?wqF ?wqN ?_ ?wqz; (case wqF => k_asm); (case wqN => k_asm); (case wqz => kmk_size)); intro D_w' h_w' F_w' N_w' l1_w; (try k_lt l1_w); (try k_sweep))
  k_with "mfold" => ((try refine tk_any (fun tkE_w => ?_)); refine m_let (by k_asm) ?_; (rename Fr _ _ _ _ => FE8); clear FE8; intro mE_w FE9_w)
  k_with "L KswPost" => ((rename Fr _ _ _ _ => FZ8); (dsimp +zetaDelta only at FZ8); (dsimp only [KswPost]))
  k_with "kfold" => ((try with_reducible refine wp_id ?_); (try k_fold))
  k_with "L execs cons" => ((fail_if_success (with_reducible rename NoConsMark => hNC9)); with_reducible refine n_cons (fun K_w' hK_w' => ?_))
  k_with "ksteps" => (repeat' (first | (k_end; first | with_reducible refine KC.next (by with_reducible assumption) ?_ | with_reducible refine KC.ret (by with_reducible assumption) ?_ | with_reducible refine KC.brk (by with_reducible assumption) ?_ | with_reducible refine KC.cont (by with_reducible assumption) ?_) | (k_unfold; (try dsimp only)) | (k_end; kc_close) | walk1 | (dsimp only; walk1) | (leave1; try dsimp only) | fail "no step"))
  trivial
theorem gcd_step {a b : Int} {G : Nat} (_ : 0 ≤ a) (h1 : 0 ≤ b) (hg : Int.gcd a b = G) (hb : b ≠ 0) : 0 ≤ b ∧ 0 ≤ a.fmod b ∧ Int.gcd b (a.fmod b) = G := by
  refine ⟨h1, Int.fmod_nonneg_of_pos _ (by omega), ?_⟩
  rw [← hg, Int.fmod_def, Int.gcd_sub_mul_left_right, Int.gcd_comm]
theorem gcd_less {a b : Int} (h1 : 0 ≤ b) (hb : b ≠ 0) : (a.fmod b).toNat < b.toNat := by
  have h2 := Int.fmod_nonneg_of_pos a (b := b) (by omega)
  have h3 := Int.fmod_lt_of_pos a (b := b) (by omega)
  omega
theorem gcd_abs (a b : Int) : Int.gcd (if a < 0 then -a else a) (if b < 0 then -b else b) = Int.gcd a b := by
  by_cases h1 : a < 0 <;> by_cases h2 : b < 0 <;> simp [h1, h2]
theorem gcd_end {a b x y : Int} (hx : 0 ≤ x) (hy : y = 0) (hg : Int.gcd x y = Int.gcd (if a < 0 then -a else a) (if b < 0 then -b else b)) : x = (Int.gcd a b : Int) := by
  rw [gcd_abs] at hg
  subst hy
  rw [← hg]
  simp [Int.natAbs_of_nonneg hx]
set_option maxRecDepth 100000 in
set_option maxHeartbeats 8000000 in
theorem gcd_c (w : World) (mean : ExcName → Option Value) (mg mb : Str → Option Value) (news : List (Addr × Obj)) (a b : Int) (ta tb : Tok) :
    ConI w mean mg mb 2 41 news [.int a ta, .int b tb] (Int.gcd a b) := by
  unfold ConI Con
  w_top off
  k_fill
  intro dp un gd cn cs a' ccd cl outer A₀ base h₀ L m s Q E B F X N T hk hd hu hret
  refine wpAny_call ?_
  k_dflt ktr_enter
  walk_at "mfold"
  k_with "exec While Compare cons nil" => ((rename Fr _ _ _ _ => FZ9); (dsimp +zetaDelta only at FZ9); k_while_given ["a!", "b!"] (fun a₀ b₀ script a b => 0 ≤ a ∧ 0 ≤ b ∧ Int.gcd a b = Int.gcd a₀ b₀) (fun a₀ b₀ script a b => b.toNat) "a" "b")
  k_with "state" => exact gcd_step (by assumption) (by assumption) (by assumption) (by assumption)
  k_with "measure" => exact gcd_less (by assumption) (by assumption)
  walk_at "ksteps"
  · exact end_I hret (gcd_end (by assumption) (by assumption) (by assumption)) (by k_asm) (by k_asm) (fun p hp => List.mem_cons_of_mem _ hp)
theorem wordsL5 : True := by
  k_with "conI" => exact gcd_c _ _ _ _ _ _ _ _ _
  trivial
theorem gcdAll_snoc (xs : List Int) (n : Int) : gcdAll (xs ++ [n]) = Int.gcd (gcdAll xs) n := by
  simp [gcdAll, List.foldl_append]
theorem gcdAll_step {xs : List Int} {x n : Int} (h : x = gcdAll xs) : (Int.gcd x n : Int) = gcdAll (xs ++ [n]) := by rw [gcdAll_snoc, h]
set_option maxRecDepth 100000 in
set_option maxHeartbeats 8000000 in
theorem gcd_all_c (w : World) (mean : ExcName → Option Value) (mg mb : Str → Option Value) (news : List (Addr × Obj)) (l : Addr) (its : List Value) (n : Nat) (xs : List Int) (hm : (l, listOf its.toArray n) ∈ news) (hi : IntsAre its xs) :
    ConI w mean mg mb 3 48 news [.ref l] (gcdAll xs) := by
  unfold ConI Con
  w_top off
  k_fill
  intro dp un gd cn cs a' ccd cl outer A₀ base h₀ L m s Q E B F X N T hk hd hu hret
  replace N := news_cons N hm
  refine wpAny_call ?_
  k_dflt ktr_enter
  have hPl : PlainMark := ⟨⟩
  k_with "pyIter ref" => k_state (fun pre found => found = gcdAll pre) "found"
  k_with "state" => first | exact rfl | exact gcdAll_step (by assumption)
  walk_at "ksteps"
  · exact end_I hret (by first | rfl | assumption) (by k_asm) (by k_asm) (fun p hp => List.mem_cons_of_mem _ hp)
theorem wordsL6 : True := by
  k_with "conI" => (refine' gcd_all_c _ _ _ _ _ _ _ _ _ ?wqm ?wqi; (case wqm => k_mem); (case wqi => walk_at "ci"))
  trivial
set_option maxRecDepth 100000 in
set_option maxHeartbeats 8000000 in
theorem zdegree_c (w : World) (mean : ExcName → Option Value) (mg mb : Str → Option Value) (news : List (Addr × Obj)) (l : Addr) (its : List Value) (n : Nat) (xs : List Int) (hm : (l, listOf its.toArray n) ∈ news) (hi : IntsAre its xs) (hs : xs.length < 2 ^ 20) :
    ConI w mean mg mb 2 62 news [.ref l] ((xs.length : Int) - 1) := by
  unfold ConI Con
  w_top off
  k_fill
  intro dp un gd cn cs a' ccd cl outer A₀ base h₀ L m s Q E B F X N T hk hd hu hret
  replace N := news_cons N hm
  refine wpAny_call ?_
  k_dflt ktr_enter
  walk_at "mfold"
  walk_at "ksteps"
  · exact end_I hret rfl (by k_asm) (by k_asm) (by walk_at "end_sub")
theorem wordsL7 : True := by
  k_with "conI" => (refine' zdegree_c _ _ _ _ _ _ _ _ _ ?wqm ?wqi ?wqz; (case wqm => k_mem); (case wqi => walk_at "ci"); (case wqz => walk_at "con_size"))
  trivial
set_option maxRecDepth 100000 in
set_option maxHeartbeats 8000000 in
theorem ztrim_c (w : World) (mean : ExcName → Option Value) (mg mb : Str → Option Value) (news : List (Addr × Obj)) (l : Addr) (its : List Value) (n : Nat) (xs : List Int) (hm : (l, listOf its.toArray n) ∈ news) (hi : IntsAre its xs) (hs : xs.length < 2 ^ 20) :
    ConL w mean mg mb 3 55 news [.ref l] (ztrimP xs) := by
  unfold ConL Con
  w_top off
  k_fill
  intro dp un gd cn cs a' ccd cl outer A₀ base h₀ L m s Q E B F X N T hk hd hu hret
  replace N := news_cons N hm
  refine wpAny_call ?_
  k_dflt ktr_enter
  walk_at "mfold"
  k_with "exec While BoolOp cons nil" => ((rename Fr _ _ _ _ => FZ9); (dsimp +zetaDelta only at FZ9); k_while_given ["row"] (fun row script size => 0 ≤ size ∧ size ≤ (row.length : Int) ∧ ztrimP (row.take size.toNat) = ztrimP row) (fun row script size => size.toNat) "size")
  k_with "state" => first | exact ztrim_start _ | exact ztrim_step (by assumption) (by assumption) (by assumption) (by assumption) (by assumption)
  walk_at "ksteps"
  · exact end_L hret (ints_cast (ztrim_end2 (by assumption) (by assumption) (by assumption) (by assumption)) (by assumption)) (by k_asm) (by k_asm) (by k_mem) (by walk_at "end_ne") (by walk_at "end_sub")
  · exact end_L hret (ints_cast (ztrim_end1 (by assumption) (by assumption)) (by assumption)) (by k_asm) (by k_asm) (by k_mem) (by walk_at "end_ne") (by walk_at "end_sub")
theorem wordsL8 : True := by
  k_with "conL" => (refine' ztrim_c _ _ _ _ _ _ _ _ _ ?wqm ?wqi ?wqz; (case wqm => k_mem); (case wqi => walk_at "ci"); (case wqz => walk_at "con_size"))
  trivial
theorem zlead_end {xs : List Int} (h : 0 < (xs.length : Int)) : xs.getD (-1 + (xs.length : Int)).toNat 0 = xs.getLastD 0 := by
  have e : (-1 + (xs.length : Int)).toNat = xs.length - 1 := by omega
  rw [e, List.getLastD_eq_getLast?, List.getLast?_eq_getElem?, List.getD]
theorem zlead_end0 {xs : List Int} (h : ¬ 0 < (xs.length : Int)) : (0 : Int) = xs.getLastD 0 := by
  have e : xs.length = 0 := by omega
  rw [List.eq_nil_of_length_eq_zero e]; rfl
set_option maxRecDepth 100000 in
set_option maxHeartbeats 8000000 in
theorem zlead_c (w : World) (mean : ExcName → Option Value) (mg mb : Str → Option Value) (news : List (Addr × Obj)) (l : Addr) (its : List Value) (n : Nat) (xs : List Int) (hm : (l, listOf its.toArray n) ∈ news) (hi : IntsAre its xs) (hs : xs.length < 2 ^ 20) :
    ConI w mean mg mb 2 69 news [.ref l] (xs.getLastD 0) := by
  unfold ConI Con
  w_top off
  k_fill
  intro dp un gd cn cs a' ccd cl outer A₀ base h₀ L m s Q E B F X N T hk hd hu hret
  replace N := news_cons N hm
  refine wpAny_call ?_
  k_dflt ktr_enter
  walk_at "mfold"
  walk_at "ksteps"
  · exact end_I hret (zlead_end (by assumption)) (by k_asm) (by k_asm) (by walk_at "end_sub")
  · exact end_I hret (zlead_end0 (by assumption)) (by k_asm) (by k_asm) (by walk_at "end_sub")
theorem wordsL9 : True := by
  k_with "conI" => (refine' zlead_c _ _ _ _ _ _ _ _ _ ?wqm ?wqi ?wqz; (case wqm => k_mem); (case wqi => walk_at "ci"); (case wqz => walk_at "con_size"))
  trivial
set_option maxRecDepth 100000 in
set_option maxHeartbeats 8000000 in
theorem zneg_c (w : World) (mean : ExcName → Option Value) (mg mb : Str → Option Value) (news : List (Addr × Obj)) (l : Addr) (its : List Value) (n : Nat) (xs : List Int) (hm : (l, listOf its.toArray n) ∈ news) (hi : IntsAre its xs) (hs : xs.length < 2 ^ 20) :
    ConL w mean mg mb 2 79 news [.ref l] (xs.map fun x => -x) := by
  unfold ConL Con
  w_top off
  k_fill
  intro dp un gd cn cs a' ccd cl outer A₀ base h₀ L m s Q E B F X N T hk hd hu hret
  replace N := news_cons N hm
  refine wpAny_call ?_
  k_dflt ktr_enter
  walk_at "mfold"
  walk_at "ksteps"
  · exact end_L hret (by assumption) (by k_asm) (by k_asm) (by k_mem) (by walk_at "end_ne") (by walk_at "end_sub")
theorem wordsL10 : True := by
  k_with "conL" => (refine' zneg_c _ _ _ _ _ _ _ _ _ ?wqm ?wqi ?wqz; (case wqm => k_mem); (case wqi => walk_at "ci"); (case wqz => walk_at "con_size"))
  trivial
set_option maxRecDepth 100000 in
set_option maxHeartbeats 8000000 in
theorem zscale_c (w : World) (mean : ExcName → Option Value) (mg mb : Str → Option Value) (news : List (Addr × Obj)) (l : Addr) (its : List Value) (n : Nat) (xs : List Int) (k : Int) (tk : Tok) (hm : (l, listOf its.toArray n) ∈ news) (hi : IntsAre its xs) (hs : xs.length < 2 ^ 20) (ho : ∀ x ∈ xs, Sm x) (hk' : Sm k) :
    ConL w mean mg mb 2 91 news [.ref l, .int k tk] (zscaleP xs k) := by
  unfold ConL Con
  w_top off
  k_fill
  intro dp un gd cn cs a' ccd cl outer A₀ base h₀ L m s Q E B F X N T hk hd hu hret
  replace N := news_cons N hm
  walk_at "enterC"
  k_with "sm" => first | exact ho _ (by assumption) | exact hk'
  walk_at "ksteps"
  · exact end_L hret (by unfold zscaleP; rw [if_pos (by assumption)]; assumption) (by k_asm) (by k_asm) (by k_mem) (by walk_at "end_ne") (by walk_at "end_sub")
  · exact end_L hret (its := []) (by unfold zscaleP; rw [if_neg (fun h => h (by assumption))]; exact .nil) (by k_asm) (by k_asm) (by k_mem) (by walk_at "end_ne") (by walk_at "end_sub")
theorem wordsL11 : True := by
  k_with "conL" => (refine' zscale_c _ _ _ _ _ _ _ _ _ _ _ ?wqm ?wqi ?wqz ?wqo ?wqq; (case wqm => k_mem); (case wqi => walk_at "ci"); (case wqz => walk_at "con_size"); (case wqo => k_extra "sms"); (case wqq => k_extra "sm"))
  trivial
theorem flat_rep_app (k : Nat) (xs : List Int) : (List.replicate k [(0 : Int)]).flatten ++ xs = List.replicate k 0 ++ xs := by rw [flat_rep]
set_option maxRecDepth 100000 in
set_option maxHeartbeats 8000000 in
theorem zraise_c (w : World) (mean : ExcName → Option Value) (mg mb : Str → Option Value) (news : List (Addr × Obj)) (l : Addr) (its : List Value) (n : Nat) (xs : List Int) (k : Int) (tk : Tok) (hm : (l, listOf its.toArray n) ∈ news) (hi : IntsAre its xs) (hs : xs.length < 2 ^ 20) (h0 : 0 ≤ k) (h1 : k < 2 ^ 20) :
    ConL w mean mg mb 2 98 news [.ref l, .int k tk] (zraiseP xs k.toNat) := by
  unfold ConL Con
  w_top off
  k_fill
  intro dp un gd cn cs a' ccd cl outer A₀ base h₀ L m s Q E B F X N T hk hd hu hret
  replace N := news_cons N hm
  refine wpAny_call ?_
  k_dflt ktr_enter
  walk_at "mfold"
  walk_at "ksteps"
  · exact end_L hret (by unfold zraiseP; rw [if_pos (by omega), ← flat_rep_app]; assumption) (by k_asm) (by k_asm) (by k_mem) (by walk_at "end_ne") (by walk_at "end_sub")
  · exact end_L hret (its := []) (by unfold zraiseP; rw [if_neg (by omega)]; exact .nil) (by k_asm) (by k_asm) (by k_mem) (by walk_at "end_ne") (by walk_at "end_sub")
theorem wordsL12 : True := by
  k_with "conL" => (refine' zraise_c _ _ _ _ _ _ _ _ _ _ _ ?wqm ?wqi ?wqz ?wqa ?wqb; (case wqm => k_mem); (case wqi => walk_at "ci"); (case wqz => walk_at "con_size"); (case wqa => first | assumption | omega); (case wqb => first | assumption | omega))
  trivial
set_option maxRecDepth 100000 in
set_option maxHeartbeats 8000000 in
theorem divided_c (w : World) (mean : ExcName → Option Value) (mg mb : Str → Option Value) (news : List (Addr × Obj)) (l : Addr) (its : List Value) (n : Nat) (xs : List Int) (k : Int) (tk : Tok) (hm : (l, listOf its.toArray n) ∈ news) (hi : IntsAre its xs) (hs : xs.length < 2 ^ 20) (ho : DivOk k) :
    ConL w mean mg mb 2 143 news [.ref l, .int k tk] (xs.map fun x => x.fdiv k) := by
  unfold ConL Con
  w_top off
  k_fill
  intro dp un gd cn cs a' ccd cl outer A₀ base h₀ L m s Q E B F X N T hk hd hu hret
  replace N := news_cons N hm
  walk_at "enterC"
  k_with "divok" => exact ho
  walk_at "ksteps"
  · exact end_L hret (by assumption) (by k_asm) (by k_asm) (by k_mem) (by walk_at "end_ne") (by walk_at "end_sub")
theorem wordsL13 : True := by
  k_with "conL" => (refine' divided_c _ _ _ _ _ _ _ _ _ _ _ ?wqm ?wqi ?wqz ?wqo; (case wqm => k_mem); (case wqi => walk_at "ci"); (case wqz => walk_at "con_size"); (case wqo => k_extra "divok"))
  trivial
set_option maxRecDepth 100000 in
set_option maxHeartbeats 8000000 in
theorem zadd_c (w : World) (mean : ExcName → Option Value) (mg mb : Str → Option Value) (news : List (Addr × Obj)) (l : Addr) (its : List Value) (n : Nat) (xs : List Int) (hm : (l, listOf its.toArray n) ∈ news) (hi : IntsAre its xs) (hs : xs.length < 2 ^ 20)
    (l2 : Addr) (its2 : List Value) (n2 : Nat) (ys : List Int) (hm2 : (l2, listOf its2.toArray n2) ∈ news) (hi2 : IntsAre its2 ys) (hs2 : ys.length < 2 ^ 20) :
    ConL w mean mg mb 5 74 news [.ref l, .ref l2] (ztrimP ((rangeKs 0 (max xs.length ys.length)).map fun k => xs.getD k.toNat 0 + ys.getD k.toNat 0)) := by
  unfold ConL Con
  w_top off
  k_fill
  intro dp un gd cn cs a' ccd cl outer A₀ base h₀ L m s Q E B F X N T hk hd hu hret
  replace N := news_cons N hm
  replace N := news_cons N (List.mem_cons_of_mem _ hm2)
  walk_at "enterC"
  k_with "compR" => refine' kcf_range (fun k => xs.getD k.toNat 0 + ys.getD k.toNat 0) (fun k' t' I' oI' C' oC' D' m' ys' h' tk' E' hlo' hhi' hC' hx' F' N' off' ne' hMark' => ?_) ?_
  walk_at "ksteps"
  · exact kcf_el (zadd_el1 (by assumption)) rfl rfl
  · exact kcf_el (zadd_el2 (by assumption)) rfl rfl
  · exact end_L hret (by rw [← max_if]; assumption) (by k_asm) (by k_asm) (by k_mem) (by walk_at "end_ne") (by walk_at "end_sub")
theorem wordsL14 : True := by
  k_with "conL" => (refine' zadd_c _ _ _ _ _ _ _ _ _ ?wqm ?wqi ?wqz _ _ _ _ ?wqm2 ?wqi2 ?wqz2; (case wqm => k_mem); (case wqi => walk_at "ci"); (case wqz => walk_at "con_size"); (case wqm2 => k_mem); (case wqi2 => walk_at "ci"); (case wqz2 => walk_at "con_size"))
  trivial
theorem getD_neg {ys : List Int} {k : Nat} : (ys.map fun x => -x).getD k 0 = -(ys.getD k 0) := by
  simp [List.getD, List.getElem?_map]
  cases ys[k]? <;> simp
theorem range_subL (xs ys : List Int) : ((rangeKs 0 (max xs.length (ys.map fun x => -x).length)).map fun k => xs.getD k.toNat 0 + (ys.map fun x => -x).getD k.toNat 0) = subL xs ys := by
  rw [List.length_map]
  apply List.ext_getElem
  · simp [subL_length, rangeKs_length]
  · intro i h1 h2
    have e := subL_getD xs ys i
    have e2 : (subL xs ys).getD i 0 = (subL xs ys)[i] := by simp [List.getD, h2]
    rw [← e2, e, List.getElem_map, getD_neg]
    simp only [rangeKs, List.getElem_map, List.getElem_range]
    have e3 : ((0 : Int) + (i : Int)).toNat = i := by omega
    rw [e3]; omega
theorem zsub_end (xs ys : List Int) : ztrimP ((rangeKs 0 (max xs.length (ys.map fun x => -x).length)).map fun k => xs.getD k.toNat 0 + (ys.map fun x => -x).getD k.toNat 0) = zsubP xs ys := by
  rw [range_subL]; rfl
set_option maxRecDepth 100000 in
set_option maxHeartbeats 8000000 in
theorem zsub_c (w : World) (mean : ExcName → Option Value) (mg mb : Str → Option Value) (news : List (Addr × Obj)) (l : Addr) (its : List Value) (n : Nat) (xs : List Int) (hm : (l, listOf its.toArray n) ∈ news) (hi : IntsAre its xs) (hs : xs.length < 2 ^ 20)
    (l2 : Addr) (its2 : List Value) (n2 : Nat) (ys : List Int) (hm2 : (l2, listOf its2.toArray n2) ∈ news) (hi2 : IntsAre its2 ys) (hs2 : ys.length < 2 ^ 20) :
    ConL w mean mg mb 7 86 news [.ref l, .ref l2] (zsubP xs ys) := by
  unfold ConL Con
  w_top off
  k_fill
  intro dp un gd cn cs a' ccd cl outer A₀ base h₀ L m s Q E B F X N T hk hd hu hret
  replace N := news_cons N hm
  replace N := news_cons N (List.mem_cons_of_mem _ hm2)
  refine wpAny_call ?_
  k_dflt ktr_enter
  walk_at "mfold"
  walk_at "ksteps"
  · exact end_L hret (ints_cast (zsub_end _ _) (by assumption)) (by k_asm) (by k_asm) (by k_mem) (by walk_at "end_ne") (by walk_at "end_sub")
theorem wordsL15 : True := by
  k_with "conL" => (refine' zsub_c _ _ _ _ _ _ _ _ _ ?wqm ?wqi ?wqz _ _ _ _ ?wqm2 ?wqi2 ?wqz2; (case wqm => k_mem); (case wqi => walk_at "ci"); (case wqz => walk_at "con_size"); (case wqm2 => k_mem); (case wqi2 => walk_at "ci"); (case wqz2 => walk_at "con_size"))
  trivial
set_option maxRecDepth 100000 in
set_option maxHeartbeats 8000000 in
theorem check_bottom_c (w : World) (mean : ExcName → Option Value) (mg mb : Str → Option Value) (news : List (Addr × Obj)) (l : Addr) (its : List Value) (n : Nat) (xs : List Int) (hm : (l, listOf its.toArray n) ∈ news) (hi : IntsAre its xs) (hs : xs.length < 2 ^ 20) (h0 : 0 < xs.length) :
    ConN w mean mg mb 2 131 news [.ref l] := by
  unfold ConN Con
  w_top off
  k_fill
  intro dp un gd cn cs a' ccd cl outer A₀ base h₀ L m s Q E B F X N T hk hd hu hret
  replace N := news_cons N hm
  refine wpAny_call ?_
  k_dflt ktr_enter
  walk_at "mfold"
  walk_at "ksteps"
  · exact end_N hret (by k_asm) (by k_asm) (by walk_at "end_sub")
theorem wordsL16 : True := by
  k_with "conN" => (refine' check_bottom_c _ _ _ _ _ _ _ _ _ ?wqm ?wqi ?wqz ?wqp; (case wqm => k_mem); (case wqi => walk_at "ci"); (case wqz => walk_at "con_size"); (case wqp => first | assumption | omega))
  trivial
set_option maxRecDepth 100000 in
set_option maxHeartbeats 8000000 in
theorem zmul_c (w : World) (mean : ExcName → Option Value) (mg mb : Str → Option Value) (news : List (Addr × Obj)) (l : Addr) (its : List Value) (n : Nat) (xs : List Int) (hm : (l, listOf its.toArray n) ∈ news) (hi : IntsAre its xs) (hs : xs.length < 2 ^ 20)
    (l2 : Addr) (its2 : List Value) (n2 : Nat) (zs : List Int) (hm2 : (l2, listOf its2.toArray n2) ∈ news) (hi2 : IntsAre its2 zs) (hs2 : zs.length < 2 ^ 20) (ho : ∀ x ∈ xs, Sm x) (ho2 : ∀ x ∈ zs, Sm x) :
    ConL w mean mg mb 5 105 news [.ref l, .ref l2] (zmulP xs zs) := by
  unfold ConL Con
  w_top off
  k_fill
  intro dp un gd cn cs a' ccd cl outer A₀ base h₀ L m s Q E B F X N T hk hd hu hret
  replace N := news_cons N hm
  replace N := news_cons N (List.mem_cons_of_mem _ hm2)
  refine wpAny_call ?_
  k_dflt ktr_enter
  walk_at "mfold"
  have hMk : KstMark := kstMark
  k_with "sm" => first | exact ho _ (by assumption) | exact ho2 _ (by assumption)
  k_with "state" => first | exact outer0 (by assumption) (by assumption) | exact outer1 (by assumption) (by assumption) (by assumption) | exact inner1 (by assumption)
  k_with "enum" => first
    | ((rename Fr _ _ _ _ => lF); (rename News _ _ _ _ => lN); (with_unfolding_all refine' enum_upd1 (l := l) [Str.ofString "one", Str.ofString "other", Str.ofString "right"] (fun pre f => f = mulOuter (List.replicate (xs.length + zs.length - 1) 0) zs pre ∧ f.length = xs.length + zs.length - 1) (by rfl) lF lN ?hi0 ?hl hi ⟨rfl, by simp [mulOuter]⟩ (fun its1 f1 k1 pre1 post1 n1 t1 tv1 u1 h1 tk1 own1 e1 hm1 hb1 hL1 hoff1 hi1 hp1 F1 N1 => ?_) (fun its1 f1 k1 u1 h1 tk1 hi1 hp1 F1 N1 => ?_)); (case hi0 => exact ints_cast (zmul_start _ _) (by assumption)); (case hl => k_mem); (all_goals (try clear lF lN)); (all_goals (try simp only [List.map_cons] at hoff1)); (all_goals (try simp only [List.cons_append] at N1)))
    | ((rename Fr _ _ _ _ => lF); (rename News _ _ _ _ => lN); (try simp only [List.cons_append] at lN); (with_unfolding_all refine' enum_upd1 (l := l2) [Str.ofString "other", Str.ofString "right"] (fun pre f => f = mulInner f1 pre1.length n1 pre ∧ f.length = xs.length + zs.length - 1) (by rfl) lF lN hi1 ?hlB hi2 ⟨rfl, hp1.2⟩ (fun its2 f2 k2 pre2 post2 n2 t2 tv2 u2 h2 tk2 own2 e2 hm2 hb2 hL2 hoff2 hi2 hp2 F2 N2 => ?_) (fun its2 f2 k2 u2 h2 tk2 hi2 hp2 F2 N2 => ?_)); (case hlB => k_mem); (all_goals (try clear lF lN)); (all_goals (try simp only [List.map_cons, List.map_append] at hoff2)); (all_goals (try simp only [List.cons_append] at N2)))
  walk_at "ksteps"
  · exact end_L hret (its := []) (ints_cast (zmul_end0 (.inl (by assumption))) .nil) (by k_asm) (by k_asm) (by k_mem) (by walk_at "end_ne") (by walk_at "end_sub")
  · exact end_L hret (its := []) (ints_cast (zmul_end0 (.inr (by assumption))) .nil) (by k_asm) (by k_asm) (by k_mem) (by walk_at "end_ne") (by walk_at "end_sub")
  · exact end_L hret (ints_cast (zmul_end1 (by assumption) (by assumption) hp1) hi1) (by k_asm) (by k_asm) (by k_mem) (by walk_at "end_ne") (by walk_at "end_sub")
theorem wordsL17 : True := by
  k_with "conL" => (refine' zmul_c _ _ _ _ _ _ _ _ _ ?wqm ?wqi ?wqz _ _ _ _ ?wqm2 ?wqi2 ?wqz2 ?wqo ?wqo2; (case wqm => k_mem); (case wqi => walk_at "ci"); (case wqz => walk_at "con_size"); (case wqm2 => k_mem); (case wqi2 => walk_at "ci"); (case wqz2 => walk_at "con_size"); (case wqo => k_extra "sms"); (case wqo2 => k_extra "sms"))
  trivial
inductive PsRes (news : List (Addr × Obj)) (xs zs : List Int) (R : List Int × List Int × Int) (r : Value) (nw : List (Addr × Obj)) : Prop
  | mk (T : Addr) (l1 : Addr) (i1 : List Value) (n1 : Nat) (l2 : Addr) (i2 : List Value) (n2 : Nat) (t : Tok)
    (c0 : r = .ref T)
    (c1 : nw = (T, ({ cls := .type "tuple", data := .seq #[.ref l1, .ref l2, .int (manyP xs zs) t] } : Obj)) :: (l2, listOf i2.toArray n2) :: (l1, listOf i1.toArray n1) :: news)
    (c2 : IntsAre i1 (zscaleP R.2.1 (zs.getLastD 0 ^ R.2.2.toNat)))
    (c3 : IntsAre i2 (zscaleP R.1 (zs.getLastD 0 ^ R.2.2.toNat)))
    (c4 : (∀ p ∈ news, p.1 ≠ T))
    (c5 : (∀ p ∈ news, p.1 ≠ l2))
    (c6 : (∀ p ∈ news, p.1 ≠ l1)) : PsRes news xs zs R r nw
set_option maxRecDepth 100000 in
set_option maxHeartbeats 8000000 in
theorem pseudo_c (w : World) (mean : ExcName → Option Value) (mg mb : Str → Option Value) (news : List (Addr × Obj)) (l : Addr) (its : List Value) (n : Nat) (xs : List Int) (hm : (l, listOf its.toArray n) ∈ news) (hi : IntsAre its xs) (hs : xs.length < 2 ^ 19)
    (l2 : Addr) (its2 : List Value) (n2 : Nat) (zs : List Int) (hm2 : (l2, listOf its2.toArray n2) ∈ news) (hi2 : IntsAre its2 zs) (hs2 : zs.length < 2 ^ 19) (hz : 0 < zs.length) (R : List Int × List Int × Int) (hsz : ∀ x ∈ zs, Sm x)
    (hR : psLoop zs (xs.length + 1) xs [] (manyP xs zs) = R) (hOk : psOk zs (xs.length + 1) xs []) (hR0 : 0 ≤ R.2.2 ∧ R.2.2 ≤ 1000) (hR1 : Sm (zs.getLastD 0 ^ R.2.2.toNat)) :
    Con w mean mg mb 12 138 news [.ref l, .ref l2] (PsRes news xs zs R) := by
  unfold Con
  w_top off
  k_fill
  intro dp un gd cn cs a' ccd cl outer A₀ base h₀ L m s Q E B F X N T hk hd hu hret
  replace N := news_cons N hm
  replace N := news_cons N (List.mem_cons_of_mem _ hm2)
  refine wpAny_call ?_
  k_dflt ktr_enter
  walk_at "mfold"
  have hMk : KstMark := kstMark
  k_with "while" => ((rename Fr _ _ _ _ => lF); (rename News _ _ _ _ => lN); (with_unfolding_all refine' while_2L (rn := Str.ofString "rest") (fn := Str.ofString "found") (vn := [Str.ofString "left"]) (rest := (l2, listOf its2.toArray n2) :: (l, listOf its.toArray n) :: news) (vs := [_]) (ks := [_]) [Str.ofString "number", Str.ofString "power"] (fun r f ks => PsInv zs xs.length R r f (ks.headD 0)) (fun r _ _ => r.length) lF ?wN ?wi ?wj ?wk rfl rfl rfl ?w4 ?wp (fun lr ir xr nr lf jf xf nf vs ks u h tk i1 i2 i3 h3 hp F' N' => ?_)); (case w4 => kst_all); (case wN => walk_at "wN"); (case wi => exact hi); (case wj => exact .nil); (case wk => exact .cons _ _ .nil); (case wp => exact PsInv.start hR hOk); clear lF lN; (obtain ⟨v, t, ev, ek⟩ := ints_one i3 h3); subst ev; subst ek; (have hl1 := hp.len.1); (have hl2 := hp.len.2); (walk_at "kfold"))
  have hfirst := hsz _ (getLastD_mem hz)
  k_with "sms" => first | exact hsz | exact hp.sm.1 | exact hp.sm.2
  k_with "sm" => first | exact hsz _ (by assumption) | exact hfirst | exact hp.sm.1 _ (getD_last_mem (by omega)) | exact hp.more (by assumption) hR1
  k_with "pow0" => exact (hp.left (by assumption) hR0).1
  k_with "powle" => exact (hp.left (by assumption) hR0).2
  walk_at "ksteps"
  · walk_at "wend"
    exact ps_step hz hp (by assumption)
  · obtain rfl := hp.fin (by assumption)
    refine' hret _ _ _ _ ⟨_, _, _, _, _, _, _, _, rfl, rfl, ?ea, ?eb, ?ec, ?ed, ?ee⟩ ?eF (kst_newsOf ?eN ?eS)
    (case eF => k_asm)
    (case eN => k_asm)
    (case eS => (refine List.forall_mem_cons.mpr ⟨by k_mem, List.forall_mem_cons.mpr ⟨by k_mem, List.forall_mem_cons.mpr ⟨by k_mem, ?_⟩⟩⟩; (intro p9 hp9; kst_mem)))
    (case ea => assumption)
    (case eb => assumption)
    (case ec => walk_at "end_ne")
    (case ed => walk_at "end_ne")
    (case ee => walk_at "end_ne")
theorem wordsL18 : True := by
  k_with "L call ref" => (k_here; k_dflt (refine' con_use ?wqk1 ?wqk2 ?wqk3 ?wqk4 ?wqk5 ?wqkK ?wqhc ?wqkd ?wqku ?_; (case wqk1 => k_asm); (case wqk2 => k_asm); (case wqk3 => k_asm); (case wqk4 => k_asm); (case wqk5 => k_asm); (case wqkK => first | exact rfl | assumption); (case wqhc => (refine' pseudo_c _ _ _ _ _ _ _ _ _ ?wqm ?wqi ?wqz _ _ _ _ ?wqm2 ?wqi2 ?wqz2 ?wqp _ ?wqs rfl ?wqo ?wqa ?wqb; (case wqm => k_mem); (case wqi => walk_at "ci"); (case wqz => walk_at "con_size"); (case wqm2 => k_mem); (case wqi2 => walk_at "ci"); (case wqz2 => walk_at "con_size"); (case wqp => first | assumption | omega); (case wqs => k_extra "sms"); (case wqo => k_extra "psok"); (case wqa => k_extra "psleft"); (case wqb => k_extra "psmore"))); (case wqkd => ktr_room); (case wqku => ktr_units); (intro r_w nw_w h_w' tk_w' hR_w F_w' N_w'; obtain ⟨T, l1, i1, n1, l2, i2, n2, t, er, en, hi1, hi2, a1, a2, a3⟩ := hR_w; subst er; subst en; (replace a1 := off1_of a1); (replace a2 := off1_of a2); (replace a3 := off1_of a3); (try simp only [LCg.Off1, and_true] at a1 a2 a3); (k_extra "afterps"); (try dsimp only); (walk_at "kfold"))))
  trivial
set_option maxRecDepth 100000 in
set_option maxHeartbeats 8000000 in
theorem full_rest_c (w : World) (mean : ExcName → Option Value) (mg mb : Str → Option Value) (news : List (Addr × Obj)) (l : Addr) (its : List Value) (n : Nat) (xs : List Int) (hm : (l, listOf its.toArray n) ∈ news) (hi : IntsAre its xs) (hs : xs.length < 2 ^ 19)
    (l2 : Addr) (its2 : List Value) (n2 : Nat) (zs : List Int) (hm2 : (l2, listOf its2.toArray n2) ∈ news) (hi2 : IntsAre its2 zs) (hs2 : zs.length < 2 ^ 19) (hz : 0 < zs.length) (hxz : zs.length ≤ xs.length) (hok : PremOk xs zs) :
    ConL w mean mg mb 14 148 news [.ref l, .ref l2] (premP xs zs) := by
  unfold ConL Con
  w_top off
  k_fill
  intro dp un gd cn cs a' ccd cl outer A₀ base h₀ L m s Q E B F X N T hk hd hu hret
  replace N := news_cons N hm
  replace N := news_cons N (List.mem_cons_of_mem _ hm2)
  walk_at "enterC"
  have hMk : KstMark := kstMark
  k_with "afterps" => ((rename IntsAre _ (zscaleP (Prod.fst _) _) => hq); (have hq1 := IntsAre.length hq); (have hq2 : (zscaleP (psR xs zs).1 (zs.getLastD 0 ^ (psR xs zs).2.2.toNat)).length ≤ xs.length := premP_length hz); (change IntsAre _ (premP xs zs) at hq); (change _ = (premP xs zs).length at hq1); (change (premP xs zs).length ≤ _ at hq2))
  k_with "sm" => first | exact hok.rest _ (by assumption) | exact sm_pow0 (lacking0 hxz) | exact hok.b _ (getLastD_mem hz)
  k_with "pow0" => exact Int.le_of_eq (lacking0 hxz).symm
  k_with "powle" => exact Int.le_trans (Int.le_of_eq (lacking0 hxz)) (by decide)
  k_with "sms" => exact hok.b
  k_with "psok" => exact hok.loop
  k_with "psleft" => exact hok.left
  k_with "psmore" => exact hok.more
  walk_at "ksteps"
  · exact end_L hret (ints_cast (full_end hxz) (by assumption)) (by k_asm) (by k_asm) (by k_mem) (by walk_at "end_ne") (by walk_at "end_sub")
theorem wordsL19 : True := by
  k_with "conL" => (refine' full_rest_c _ _ _ _ _ _ _ _ _ ?wqm ?wqi ?wqz _ _ _ _ ?wqm2 ?wqi2 ?wqz2 ?wqp ?wqq ?wqo; (case wqm => k_mem); (case wqi => walk_at "ci"); (case wqz => walk_at "con_size"); (case wqm2 => k_mem); (case wqi2 => walk_at "ci"); (case wqz2 => walk_at "con_size"); (case wqp => first | assumption | omega); (case wqq => first | assumption | omega | k_extra "restle"); (case wqo => k_extra "premok"))
  k_with "wend3" => (refine' wend_intro (ks := [_, _, _]) (vs := [_, _, _]) ?wqF ?wqN ?wqh1 ?wqh2 rfl ?wqh4 ?wqm1 ?wqm2 ?wqhs ?wqi1 ?wqi2 ?wqi3 ?wqhz ?_; (case wqF => assumption); (case wqh1 => exact rfl); (case wqh2 => exact rfl); (case wqh4 => kst_all); (case wqN => k_asm); (case wqm1 => k_mem); (case wqm2 => k_mem); (case wqhs => (intro p9_w hp9_w; kst_mem)); (case wqi1 => assumption); (case wqi2 => assumption); (case wqi3 => exact .cons _ _ (.cons _ _ (.cons _ _ .nil))); (case wqhz => (intro z_w h1_w h2_w h3_w h4_w; simp only [List.mem_cons, List.not_mem_nil, or_false, forall_eq_or_imp, forall_eq, List.contains_cons, List.contains_nil, Bool.or_false, Bool.or_eq_false_iff, beq_eq_false_iff_ne, ne_eq] at h1_w h2_w h3_w h4_w; simp +zetaDelta [kstB, h1_w, h2_w, h3_w, h4_w])))
  trivial
section
variable {prog : Program} {w : World} {A : Around} {E : Value → Shared → Prop} {s : Shared} {h₀ : Heap} {L : Addr} {m : Str → Option Value} {env : Env}
inductive SgPost (h₀ : Heap) (L : Addr) (s : Shared) (x : Str) (m : Str → Option Value) (news : List (Addr × Obj)) (V : Int) (f : Flow) (s' : Shared) : Prop
  | mk (h' : Heap) (tk : Nat) (t : Tok) (c0 : f = .next) (c1 : s' = { s with heap := h', toks := tk }) (F : Fr h₀ L h' (fun z => if z = x then some (.int V t) else m z)) (N : News h₀ L h' news) : SgPost h₀ L s x m news V f s'
theorem sg_join {st : Stmt} {news : List (Addr × Obj)} {Q : Flow → Shared → Prop} (x : Str) (V : Int) (_F : Fr h₀ L s.heap m) (_N : News h₀ L s.heap news) (h1 : wpAny (model prog w) A (exec st env) (SgPost h₀ L s x m news V) E s)
    (h2 : ∀ h' tk t, Fr h₀ L h' (fun z => if z = x then some (.int V t) else m z) → News h₀ L h' news → Q .next { s with heap := h', toks := tk }) : wpAny (model prog w) A (exec st env) Q E s :=
  wpAny_mono h1 (fun _ _ p => by
    cases p with
    | mk h' tk t c0 c1 F N => subst c0; subst c1; exact h2 h' tk t F N) fun _ _ e => e
theorem sg_set {x : Str} {v V : Int} {t : Tok} {h : Heap} (e : v = V) (F : Fr h₀ L h (fun z => if z = x then some (.int v t) else m z)) : Fr h₀ L h (fun z => if z = x then some (.int V t) else m z) := e ▸ F
theorem sg_keep {x : Str} {v V : Int} {t : Tok} {h : Heap} (e : v = V) (hm : m x = some (.int v t)) (F : Fr h₀ L h m) : Fr h₀ L h (fun z => if z = x then some (.int V t) else m z) := by
  subst e
  have q : (fun z => if z = x then some (.int v t) else m z) = m := funext fun z => by
    by_cases hz : z = x
    · rw [if_pos hz, hz, hm]
    · rw [if_neg hz]
  rw [q]; exact F
end
theorem wordsL20 : True := by
  k_with "L exec If" => (k_here; goal_lacks SgPost; k_extra "ifjoin")
  trivial
set_option maxRecDepth 100000 in
set_option maxHeartbeats 8000000 in
theorem row_resultant_c (w : World) (mean : ExcName → Option Value) (mg mb : Str → Option Value) (news : List (Addr × Obj)) (l : Addr) (its : List Value) (n : Nat) (xs : List Int) (hm : (l, listOf its.toArray n) ∈ news) (hi : IntsAre its xs) (hs : xs.length ≤ 500)
    (l2 : Addr) (its2 : List Value) (n2 : Nat) (zs : List Int) (hm2 : (l2, listOf its2.toArray n2) ∈ news) (hi2 : IntsAre its2 zs) (hs2 : zs.length ≤ 500) (sgn : Int) (tsg : Tok) (hok : rrOk (zs.length + 1) xs zs sgn 1 1) :
    ConI w mean mg mb 18 155 news [.ref l, .ref l2, .int sgn tsg] (rrLoop (zs.length + 1) xs zs sgn 1 1) := by
  unfold ConI Con
  w_top off
  k_fill
  intro dp un gd cn cs a' ccd cl outer A₀ base h₀ L m s Q E B F X N T hk hd hu hret
  replace N := news_cons N hm
  replace N := news_cons N (List.mem_cons_of_mem _ hm2)
  refine wpAny_call ?_
  k_dflt ktr_enter
  walk_at "mfold"
  have hMk : KstMark := kstMark
  k_with "while" => ((rename Fr _ _ _ _ => lF); (rename News _ _ _ _ => lN); (with_unfolding_all refine' while_2L (rn := Str.ofString "a") (fn := Str.ofString "b") (vn := [Str.ofString "sign", Str.ofString "g", Str.ofString "h"]) (rest := news) (vs := [_, _, _]) (ks := [_, _, _]) [Str.ofString "gap", Str.ofString "rest"] (fun a b ks => RrInv (rrLoop (zs.length + 1) xs zs sgn 1 1) a b (ks.getD 0 0) (ks.getD 1 0) (ks.getD 2 0)) (fun _ b _ => b.length) lF ?wN ?wi ?wj ?wk rfl rfl rfl ?w4 ?wp (fun lr ir xr nr lf jf xf nf vs ks u h tk i1 i2 i3 h3 hp F' N' => ?_)); (case w4 => kst_all); (case wN => walk_at "wN"); (case wi => exact hi); (case wj => exact hi2); (case wk => exact .cons _ _ (.cons _ _ (.cons _ _ .nil))); (case wp => exact RrInv.start hok hs hs2); clear lF lN; (obtain ⟨v, t, v2, t2, v3, t3, ev, ek⟩ := ints_three i3 h3); subst ev; subst ek; (change RrInv _ _ _ v v2 v3 at hp); (have hl1 := hp.lens.1); (have hl2 := hp.lens.2); (walk_at "kfold"))
  k_with "premok" => exact (hp.turn (by omega)).prem
  k_with "restle" => exact (hp.turn (by omega)).le
  k_with "pow0" => first | omega | exact (hp.turn (by omega)).gap0
  k_with "powle" => omega
  k_with "sm" => first | exact (hp.turn (by omega)).smg | exact (hp.turn (by omega)).smh | exact (hp.turn (by omega)).hp' | exact (hp.turn (by omega)).lead | exact (hp.done (by omega) (ne_of_len (by assumption))).b0 | exact (hp.done (by omega) (ne_of_len (by assumption))).smh | exact (hp.done (by omega) (ne_of_len (by assumption))).smsign | exact (hp.done (by omega) (ne_of_len (by assumption))).val' (by assumption) | exact (hp.done (by omega) (ne_of_len (len_pos_of (by assumption)))).smsign | exact sm_one
  k_with "divok" => first | exact (hp.turn (by omega)).div' | exact (hp.turn (by omega)).hdiv' (by assumption) | exact (hp.done (by omega) (ne_of_len (by assumption))).hdiv' (by assumption)
  k_with "eval Subscript" => ((rename decide (_ = ([] : List Int)) = false => hd9); (have hd8 := len_pos_of hd9); clear hd9)
  k_with "size" => (exact Nat.lt_of_lt_of_le (premP_lt (by omega)) (by omega))
  k_with "ifjoin" => k_dflt ((with_reducible show wpAny _ _ (exec (Stmt.If (PySem.Expr.BoolOp _ _ _) _ _ _) _) _ _ _); (rename Fr _ _ _ _ => lF); (rename News _ _ _ _ => lN); (refine' sg_join (Str.ofString "sign") (rrS xr xf v) lF lN ?_ (fun h4 tk4 t4 F4 N4 => ?_)))
  k_with "SgPost" => first
    | ((have hle9 := (hp.turn (by omega)).le); exact SgPost.mk _ _ _ rfl rfl (sg_set (rrS_odd (by omega) (by omega) (by assumption) (by assumption)) (by with_reducible assumption)) (by with_reducible assumption))
    | exact SgPost.mk _ _ _ rfl rfl (sg_keep (by first | exact rrS_even1 (by assumption) (by omega) | exact rrS_even2 (by assumption) (by omega)) (by rfl) (by with_reducible assumption)) (by with_reducible assumption)
  walk_at "ksteps"
  iterate 2
    · have hle := (hp.turn (by omega)).le
      walk_at "wend3"
      exact RrTurn.next hp (by omega) rfl (by first | exact rrH_pos (by assumption) hle | exact rrH_zero (by assumption))
  · exact end_I hret (rr_end0 hp (by assumption) (by assumption)) (by k_asm) (by k_asm) (by walk_at "end_sub")
  · exact end_I hret (rr_end1 hp (by assumption) (by assumption) (by assumption)) (by k_asm) (by k_asm) (by walk_at "end_sub")
  · exact end_I hret (rr_end2 hp (by assumption) (by assumption) (by assumption)) (by k_asm) (by k_asm) (by walk_at "end_sub")
theorem wordsL21 : True := by
  k_with "conI" => (refine' row_resultant_c _ _ _ _ _ _ _ _ _ ?wqm ?wqi ?wqz _ _ _ _ ?wqm2 ?wqi2 ?wqz2 _ _ ?wqo; (case wqm => k_mem); (case wqi => walk_at "ci"); (case wqz => walk_at "con_size"); (case wqm2 => k_mem); (case wqi2 => walk_at "ci"); (case wqz2 => walk_at "con_size"); (case wqo => k_extra "rrok"))
  trivial
set_option maxRecDepth 100000 in
set_option maxHeartbeats 8000000 in
theorem zcontent_c (w : World) (mean : ExcName → Option Value) (mg mb : Str → Option Value) (news : List (Addr × Obj)) (l : Addr) (its : List Value) (n : Nat) (xs : List Int) (hm : (l, listOf its.toArray n) ∈ news) (hi : IntsAre its xs) :
    ConI w mean mg mb 4 112 news [.ref l] (gcdAll xs) := by
  unfold ConI Con
  w_top off
  k_fill
  intro dp un gd cn cs a' ccd cl outer A₀ base h₀ L m s Q E B F X N T hk hd hu hret
  replace N := news_cons N hm
  refine wpAny_call ?_
  k_dflt ktr_enter
  walk_at "mfold"
  walk_at "ksteps"
  · exact end_I hret rfl (by k_asm) (by k_asm) (by walk_at "end_sub")
theorem wordsL22 : True := by
  k_with "conI" => (refine' zcontent_c _ _ _ _ _ _ _ _ _ ?wqm ?wqi; (case wqm => k_mem); (case wqi => walk_at "ci"))
  trivial
set_option maxRecDepth 100000 in
set_option maxHeartbeats 8000000 in
theorem resultant_c (w : World) (mean : ExcName → Option Value) (mg mb : Str → Option Value) (news : List (Addr × Obj)) (l : Addr) (its : List Value) (n : Nat) (xs : List Int) (hm : (l, listOf its.toArray n) ∈ news) (hi : IntsAre its xs)
    (l2 : Addr) (its2 : List Value) (n2 : Nat) (zs : List Int) (hm2 : (l2, listOf its2.toArray n2) ∈ news) (hi2 : IntsAre its2 zs) (hok : ResOk xs zs) :
    ConI w mean mg mb 22 162 news [.ref l, .ref l2] (resP xs zs) := by
  unfold ConI Con
  w_top off
  k_fill
  intro dp un gd cn cs a' ccd cl outer A₀ base h₀ L m s Q E B F X N T hk hd hu hret
  replace N := news_cons N hm
  replace N := news_cons N (List.mem_cons_of_mem _ hm2)
  refine wpAny_call ?_
  k_dflt ktr_enter
  walk_at "mfold"
  have hMk : KstMark := kstMark
  have hx0 := hok.x0
  have hz0 := hok.z0
  have hle := hok.le
  have hlen := hok.len
  k_with "sm" => first | exact hok.one.sm | exact hok.other.sm | exact hok.p1' | exact hok.p2' | exact hok.p3' | exact hok.val'
  k_with "divok" => first | exact hok.one | exact hok.other
  k_with "pow0" => omega
  k_with "powle" => omega
  k_with "rrok" => exact hok.rr'
  k_with "size" => ((simp only [List.length_map]); omega)
  walk_at "ksteps"
  · exact absurd (by assumption) (not_nil_of hx0)
  · exact absurd (by assumption) (not_nil_of hz0)
  · exact end_I hret (res_end hok) (by k_asm) (by k_asm) (by walk_at "end_sub")
theorem wordsL23 : True := by
  k_with "conI" => (refine' resultant_c _ _ _ _ _ _ _ _ _ ?wqm ?wqi _ _ _ _ ?wqm2 ?wqi2 ?wqo; (case wqm => k_mem); (case wqi => walk_at "ci"); (case wqm2 => k_mem); (case wqi2 => walk_at "ci"); (case wqo => k_extra "resok"))
  trivial
set_option maxRecDepth 100000 in
set_option maxHeartbeats 8000000 in
theorem zderive_c (w : World) (mean : ExcName → Option Value) (mg mb : Str → Option Value) (news : List (Addr × Obj)) (l : Addr) (its : List Value) (n : Nat) (xs : List Int) (hm : (l, listOf its.toArray n) ∈ news) (hi : IntsAre its xs) (hs : xs.length ≤ 500) (hsm : ∀ x ∈ xs, Sm x) :
    ConL w mean mg mb 4 117 news [.ref l] (zderiveP xs) := by
  unfold ConL Con
  w_top off
  k_fill
  intro dp un gd cn cs a' ccd cl outer A₀ base h₀ L m s Q E B F X N T hk hd hu hret
  replace N := news_cons N hm
  refine wpAny_call ?_
  k_dflt ktr_enter
  walk_at "mfold"
  have hMk : KstMark := kstMark
  k_with "enum" => k_dflt ((rename Fr _ _ _ _ => lF); (rename News _ _ _ _ => lN); (refine' enum_src (fun i n => n * i) (by rfl) ?hl hi ?hsz lF lN (fun s₂ hs₂ i n t tv C oC m₂ all h tk E' e1 e2 e3 hC hx1 hx2 F' N' => ?_) (fun ys D h tk hy F' N' o1 => ?_)); (case hl => k_mem); (case hsz => (rw [PySem.sizeLine_eq]; omega)); (all_goals (try clear lF lN)); (all_goals (try ((have hyl := IntsAre.length hy); (simp only [List.length_map, List.length_zipIdx] at hyl)))))
  k_with "sm" => first | exact hsm _ (by assumption) | exact sm_small (by omega)
  walk_at "ksteps"
  · k_asm
  · k_asm
  · exact end_L hret (by assumption) (by k_asm) (by k_asm) (by k_mem) (by walk_at "end_ne") (by walk_at "end_sub")
theorem wordsL24 : True := by
  k_with "conL" => (refine' zderive_c _ _ _ _ _ _ _ _ _ ?wqm ?wqi ?wqz ?wqo; (case wqm => k_mem); (case wqi => walk_at "ci"); (case wqz => walk_at "con_size"); (case wqo => k_extra "sms"))
  trivial
set_option maxRecDepth 100000 in
set_option maxHeartbeats 8000000 in
theorem zat_c (w : World) (mean : ExcName → Option Value) (mg mb : Str → Option Value) (news : List (Addr × Obj)) (l : Addr) (its : List Value) (n : Nat) (xs : List Int) (hm : (l, listOf its.toArray n) ∈ news) (hi : IntsAre its xs) (k : Int) (tk : Tok) (hk1 : -(2 ^ 64) < k) (hk2 : k < 2 ^ 64) :
    ConI w mean mg mb 4 124 news [.ref l, .int k tk] (zatP xs k) := by
  unfold ConI Con
  w_top off
  k_fill
  intro dp un gd cn cs a' ccd cl outer A₀ base h₀ L m s Q E B F X N T hk hd hu hret
  replace N := news_cons N hm
  refine wpAny_call ?_
  k_dflt ktr_enter
  walk_at "mfold"
  have hMk : KstMark := kstMark
  k_with "mulok" => exact IntMulOk.of_right (intBits_le_64 hk1 hk2)
  k_with "loop" => ((rename Fr _ _ _ _ => lF); (rename News _ _ _ _ => lN); (with_unfolding_all refine' iter_rev_acc (y := Str.ofString "found") (fun a n => a * k + n) (by decide) (by rfl) lF lN ?hoff ?hm hi rfl (fun n t a ta it h tk hn F' N' => ?_) (fun u t h tk F' N' => ?_)); (case hoff => k_all); (case hm => k_mem); (all_goals (try clear lF lN)); (all_goals (walk_at "kfold")))
  walk_at "ksteps"
  · exact rev_end (by assumption) (by assumption) rfl (by intro z h1 h2; simp +zetaDelta [h1, h2])
  · exact end_I hret rfl (by k_asm) (by k_asm) (by walk_at "end_sub")
theorem wordsL25 : True := by
  k_with "conI" => (refine' zat_c _ _ _ _ _ _ _ _ _ ?wqm ?wqi _ _ ?wqa ?wqb; (case wqm => k_mem); (case wqi => walk_at "ci"); (case wqa => k_extra "zat1"); (case wqb => k_extra "zat2"))
  trivial
set_option maxRecDepth 100000 in
set_option maxHeartbeats 8000000 in
theorem pivot_row_c (w : World) (mean : ExcName → Option Value) (mg mb : Str → Option Value) (news : List (Addr × Obj)) (l : Addr) (as : List Addr) (cs : List Cel) (n : Nat) (step : Nat) (ts : Tok) (hm : (l, listOf (as.map Value.ref).toArray n) ∈ news) (hM : ∀ p ∈ MatL as cs, p ∈ news) (hlen : cs.length = as.length) (hc : CelsOk cs) (hsq : Square (rowsOf cs)) (hst : step < as.length) (hs : as.length ≤ 500) :
    Con w mean mg mb 2 169 news [.ref l, .int step ts] (fun r nw => nw = news ∧ match pivotP (rowsOf cs) step with | some k => ∃ t, r = .int k t | none => r = .none) := by
  unfold Con
  w_top off
  k_fill
  intro dp un gd cn cs' a' ccd cl outer A₀ base h₀ L m s Q E B F X N T hk hd hu hret
  replace N := news_cons N hm
  refine wpAny_call ?_
  k_dflt ktr_enter
  walk_at "mfold"
  have hMk : KstMark := kstMark
  k_with "loop" => ((rename Fr _ _ _ _ => lF); (rename News _ _ _ _ => lN); (with_unfolding_all refine' kst_range (σ := Unit) (fun _ => (l, listOf (as.map Value.ref).toArray n) :: news) (fun _ => []) (fun _ => True) [] (fun pre _ => ∀ i, i < pre.length → ent (rowsOf cs) (step + i) step = 0) () (by rfl) (by assumption) ?sm ?sz lF lN trivial (fun _ h => nomatch h) (fun _ h => nomatch h) (fun c pre k t u h tk own hk1 hlt hoff hf hp F' N' => ?_) (fun c u h tk hf hp F' N' => ?_)); (case sm => exact small_one (by omega) (by omega) (by omega) (by omega)); (case sz => exact rangeSize_nat _ _); (all_goals (try simp only [List.cons_append, List.map_cons] at N' hoff)); (all_goals (try clear lF lN)); (all_goals (walk_at "kfold")))
  k_with "state" => exact pivot_miss (by assumption) (by assumption) (by assumption) (by assumption)
  walk_at "ksteps"
  · exact hret _ _ _ _ ⟨rfl, pivot_end (pivot_hit (by assumption) (by assumption) (by assumption) (by assumption) (by assumption) (by assumption))⟩ (by k_asm) (kst_newsOf (by k_asm) (by walk_at "end_sub"))
  · rename News _ _ _ _ => nE'
    refine' kst_end () (by assumption) nE' ?a1 ?a2 (by rfl) ?a3 ?a4 ?a5 ?a6
    (case a6 => exact pivot_miss (by assumption) (by assumption) (by assumption) (by assumption))
    (case a1 => walk_at "sub_all")
    (case a2 => walk_at "sub_all")
    (case a3 => trivial)
    (case a4 => kst_all)
    (case a5 => walk_at "m_same")
  · exact hret _ _ _ _ ⟨rfl, by rw [pivot_out hlen hp]⟩ (by k_asm) (kst_newsOf (by k_asm) (by walk_at "end_sub"))
set_option maxRecDepth 100000 in
set_option maxHeartbeats 8000000 in
theorem bareiss_step_c (w : World) (mean : ExcName → Option Value) (mg mb : Str → Option Value) (rest : List (Addr × Obj)) (l : Addr) (as : List Addr) (cs : List Cel) (n : Nat) (step : Nat) (ts : Tok) (ahead : Int) (ta : Tok)
    (hlen : cs.length = as.length) (hc : CelsOk cs) (hsq : Square (rowsOf cs)) (hnd : as.Nodup) (hal : l ∉ as) (hrest : ∀ p ∈ rest, p.1 ∉ as) (hst : step < as.length) (hs : as.length ≤ 500) (hsm : MSm (rowsOf cs)) (hah : DivOk ahead) :
    Con w mean mg mb 2 176 ((l, listOf (as.map Value.ref).toArray n) :: (MatL as cs ++ rest)) [.ref l, .int step ts, .int ahead ta]
      (fun r nw => r = .none ∧ ∃ cs', nw = (l, listOf (as.map Value.ref).toArray n) :: (MatL as cs' ++ rest) ∧ CelsOk cs' ∧ cs'.length = as.length ∧ rowsOf cs' = bareissP (rowsOf cs) step ahead) := by
  unfold Con
  w_top off
  k_fill
  intro dp un gd cn cs' a' ccd cl outer A₀ base h₀ L m s Q E B F X N T hk hd hu hret
  refine wpAny_call ?_
  k_dflt ktr_enter
  walk_at "mfold"
  k_with "loop" => first
    | (k_of "row" => ((rename Fr _ _ _ _ => lF); (rename News _ _ _ _ => lN); (with_unfolding_all refine' mat_range [Str.ofString "first", Str.ofString "column"] (fun j c => rowsOf c = bOuter (rowsOf cs) step ahead j) (by rfl) (by assumption) ?sm ?sz lF lN hc hlen rfl (fun c j t u h tk own hj hc1 hl1 hown hp F' N' => ?_) (fun c u h tk hc1 hl1 hp F' N' => ?_)); (case sm => exact small_one (by omega) (by omega) (by omega) (by omega)); (case sz => exact rangeSize_nat _ _); (all_goals (try clear lF lN)); (all_goals (try (have hsq1 := b_sqO hsq hlen hj hp))); (all_goals (walk_at "kfold"))))
    | (k_of "column" => ((rename Fr _ _ _ _ => lF); (rename News _ _ _ _ => lN); (with_unfolding_all refine' mat_range [] (fun i c => rowsOf c = bMid (rowsOf cs) step ahead j i) (by rfl) (by assumption) ?smB ?szB lF lN hc1 hl1 (b_start hj hlen hp) (fun c2 i t2 u2 h2 tk2 own2 hi hc2 hl2 hown2 hp2 F2 N2 => ?_) (fun c2 u2 h2 tk2 hc2 hl2 hp2 F2 N2 => ?_)); (case smB => exact small_one (by omega) (by omega) (by omega) (by omega)); (case szB => exact rangeSize_nat _ _); (all_goals (try clear lF lN)); (all_goals (try (have hsq2 := b_sqM hsq hlen hj hp2))); (all_goals (walk_at "kfold"))))
  k_with "sm" => first | exact sm_eq (b_cur hj hlen hp2 (by assumption)) (hsm.ent _ _) | exact sm_eq (b_lead (by assumption)) (hsm.ent _ _) | exact sm_eq (b_first hj hlen hp (by assumption)) (hsm.ent _ _) | exact sm_eq (b_top hp2 (by assumption)) (hsm.ent _ _)
  k_with "divok" => exact hah
  walk_at "ksteps"
  · refine mend_intro (by assumption) (by assumption) (fun p hp => List.mem_append_left _ hp) (fun p hp => List.mem_append_right _ hp) (celsOk_set hc2 (ints_set (by assumption) _)) (by rw [List.length_set]; exact hl2) (by walk_at "m_keep") ?_
    exact b_next hj hlen hp2 hp (by assumption) (by assumption) (by assumption) (by assumption) (by assumption) _ _
  · refine mend_intro (by assumption) (by assumption) (fun p hp => List.mem_append_left _ hp) (fun p hp => List.mem_append_right _ hp) (celsOk_set hc2 (ints_set (by assumption) _)) (by rw [List.length_set]; exact hl2) (by walk_at "m_keep") ?_
    exact b_last hj hlen hp2 (by assumption) _ _
  · exact hret _ _ _ _ ⟨rfl, _, rfl, hc1, hl1, b_done hlen hp⟩ (by k_asm) (by k_asm)
theorem wordsL26 : True := by
  k_with "L call type:list" => (k_here; (with_reducible show wpAny _ _ (PySem.call (Value.type _) [Value.ref _]) _ _ _); k_extra "tolist")
  k_with "L call builtin:len" => (k_here; (with_reducible show wpAny _ _ (PySem.call (Value.builtin "len") [Value.ref _]) _ _ _); k_dflt (refine' kst_len ?wqk1 ?wqk2 ?wqk3 ?wqk4 ?_; (case wqk1 => k_asm); (case wqk2 => k_mem); (case wqk3 => assumption); (case wqk4 => omega)))
  k_with "L compareOp NotEq ref ref" => (k_here; (with_reducible show wpAny _ _ (compareOp CmpOp.NotEq (Value.ref _) (Value.ref _)) _ _ _); k_dflt (refine' ke_ne_ints (xs := []) (ys := []) (ns := []) (ms := []) ?wqa ?wqb .nil .nil ?wqu ?_; (case wqa => exact News.isList (by k_asm) (by k_mem)); (case wqb => exact News.isList (by k_asm) (by k_mem)); (case wqu => ke_room)))
  k_with "L eval ListComp" => (k_here; lct_look; k_dflt (refine LCt.ListComp_T (F₀ := by k_asm) (by with_unfolding_all rfl) (by decide) (by rfl) (by decide) (by rfl) ?_))
  k_with "L CompSrcT" => (k_here; k_extra "compT")
  k_with "L CompSrc" => (k_here; k_extra "compRows")
  k_with "L call ref" => (k_here; k_extra "callmat")
  k_with "L setItem ref int" => (k_here; (with_reducible show wpAny _ _ (setItem (Value.ref _) (Value.int _ _) (Value.ref _)) _ _ _); k_extra "refset")
  k_with "PMPost" => (dsimp only [PMPost])
  trivial
set_option maxRecDepth 100000 in
set_option maxHeartbeats 8000000 in
theorem determinant_c (w : World) (mean : ExcName → Option Value) (mg mb : Str → Option Value) (news : List (Addr × Obj)) (l : Addr) (as : List Addr) (cs : List Cel) (n : Nat)
    (hm : (l, listOf (as.map Value.ref).toArray n) ∈ news) (hM : ∀ p ∈ MatL as cs, p ∈ news) (hlen : cs.length = as.length) (hc : CelsOk cs) (hsq : Square (rowsOf cs)) (hs : as.length ≤ 500) (hok : DetOk (rowsOf cs)) :
    ConI w mean mg mb 16 181 news [.ref l] (detP (rowsOf cs)) := by
  unfold ConI Con
  w_top off
  k_fill
  intro dp un gd cn cs' a' ccd cl outer A₀ base h₀ L m s Q E B F X N T hk hd hu hret
  replace N := news_cons N hm
  walk_at "enterC"
  have hMk : KstMark := kstMark
  have hq : ∀ x ∈ rowsOf cs, x.length = as.length := fun x hx => by rw [hsq x hx, rowsOf_length, hlen]
  k_with "compT" => (k_dflt (refine LCt.CompSrcT.ledger (by rfl) (by k_asm) (by k_asm) (by k_mem) (by simp only [List.size_toArray, List.length_map]; exact Nat.le_trans hs (by decide)) ?_); intro g9; refine' comp_none_rows hlen hc hq (fun r its xs nn I' oI' C' oC' D' m' h' tk' E' hr' hi' hxl' hil' hC' hx' F' N' off' ne' => ?_) ?_; (all_goals (try (have hmr' := hM _ hr'))); (all_goals (try (have off9 := off'))); (all_goals (try (simp only [LCg.Off3, and_true] at off'))))
  k_with "compRows" => (k_dflt (refine LCg.CompSrc.ledger (by rfl) (by k_asm) (by k_asm) (by k_mem) (by simp only [List.size_toArray, List.length_map]; exact Nat.le_trans hs (by decide)) ?_); intro g9; refine' comp_rows hlen (fun i r c I' oI' C' oC' D' m' ys' bs' ds' h' tk' E' hr' hr2' hC' hx' F' N' off' ne' => ?_) ?_ (fun bs9 ds9 hb1 hb2 hb3 hb4 hb5 hb6 => ?_); (all_goals (try (have hmr' := hM _ (matL_mem hr' hr2')))); (all_goals (try (have off9 := off'))); (all_goals (try (simp only [LCg.Off3, and_true] at off'))))
  k_with "tolist" => (k_dflt (refine' kup_listOf ?F ?N ?b rfl ?_ ?z; (case F => k_asm); (case N => k_asm); (case b => k_mem); (case z => exact Nat.le_trans (Nat.le_of_eq (hc.row (by assumption) hq)) (Nat.le_trans hs (by decide)))); intro D9 c9 h9 F9 N9 l9)
  k_with "room" => (refine Nat.le_trans (Nat.le_of_eq (hc.row hr2' hq)) (Nat.le_trans hs (by decide)))
  k_with "loop" => k_dflt ((rename Fr _ _ _ _ => lF); (rename News _ _ _ _ => lN); (rename LCg.Off1 _ (MatL bs9 ds9 ++ _) => ho9); (rename _ < _ ∧ AllLt _ (MatL bs9 ds9 ++ _) => hT9); (have hap := det_apart lN ho9 hT9 (hb2.trans hb1.symm) hb4); (with_unfolding_all refine' pmat_range (τ := Int × Tok × Int × Tok) (fun v => [(Str.ofString "sign", .int v.1 v.2.1), (Str.ofString "ahead", .int v.2.2.1 v.2.2.2)]) [Str.ofString "row"] (fun j c v => detState (rowsOf cs) j = some (rowsOf c, v.1, v.2.2.1)) (1, _, 1, _) (by rfl) (by assumption) ?sm ?sz lF (news_rot lN) hb3 hb5 (hb2.trans hb1.symm) ?ps0 (by rw [detState, hb6]) (fun as2 c2 v2 j2 t2 u2 h2 tk2 own2 hj2 hP2 hc2 hl2 hown2 hp2 F2 N2 => ?_) (fun as2 c2 v2 u2 h2 tk2 hP2 hc2 hl2 hp2 F2 N2 => ?_)); (case sm => exact small_one (by omega) (by omega) (by omega) (by omega)); (case sz => exact rangeSize_nat _ _); (case ps0 => kst_all); (all_goals (obtain ⟨sg2, ts2, ah2, ta2⟩ := v2)); (all_goals (dsimp only at hp2 F2)); (all_goals (have hlen2 : as2.length = as.length := hP2.length_eq.trans hb1)); (all_goals (have hst2 := detState_sq hsq _ _ _ _ (by rw [rowsOf_length]; omega) hp2)); (all_goals (have hok2 := hok _ _ _ _ (by rw [rowsOf_length]; omega) hp2)); (all_goals (try (have hoff2 := det_off (c := c2) hap.1 hap.2 hown2 hP2))); (all_goals (try simp only [Int.zero_add] at F2)); (all_goals (try clear lF lN)); (all_goals (walk_at "kfold")))
  k_with "callmat" => k_dflt first
    | ((k_dflt (refine' con_use ?k1 ?k2 ?k3 ?k4 ?k5 ?kK ?hc ?kd ?ku ?_; (case k1 => k_asm); (case k2 => k_asm); (case k3 => k_asm); (case k4 => k_asm); (case k5 => k_asm); (case kK => first | exact rfl | assumption); (case hc => exact pivot_row_c _ _ _ _ _ _ as2 c2 _ j2 _ (by walk_at "m_mem") (by intro p9 hp9; walk_at "m_mem") hl2 hc2 hst2.2 (by omega) (by omega)); (case kd => ktr_room); (case ku => ktr_units))); intro r9 nw9 h9 tk9 hR9 F9 N9; obtain ⟨e9, hm9⟩ := hR9; subst e9; (rcases hpv : pivotP (rowsOf c2) j2 with _ | k9); (all_goals (rw [hpv] at hm9)); (all_goals (dsimp only at hm9)); (all_goals first | (subst hm9) | (obtain ⟨t9, rfl⟩ := hm9; have hk9 := pivotP_ne hpv; rw [rowsOf_length] at hk9)); (all_goals (try dsimp only)); (all_goals (walk_at "kfold")))
    | ((rename as2[Int.toNat (Nat.cast k9)]? = some _ => hrk); (rename as2[Int.toNat (Nat.cast j2)]? = some _ => hrj); (have hsl : (swapR as2 k9 j2 0).length = as2.length := swapR_length _ _ _ _); (have hsl2 : (swapR c2 k9 j2 ([], [], 0)).length = c2.length := swapR_length _ _ _ _); (have hsp := swapR_perm (d := 0) (show k9 < as2.length by omega) (show j2 < as2.length by omega)); (have hsr : Square (rowsOf (swapR c2 k9 j2 ([], [], 0))) := by rw [rowsOf_swap]; exact swapR_square hst2.2 (by rw [rowsOf_length]; omega) (by rw [rowsOf_length]; omega)); (k_dflt (refine' con_use ?k1 ?k2 ?k3 ?k4 ?k5 ?kK ?hc ?kd ?ku ?_; (case k1 => k_asm); (case k2 => k_asm); (case k3 => k_asm); (case k5 => k_asm); (case kK => first | exact rfl | assumption); (case hc => refine' bareiss_step_c _ _ _ _ _ _ (swapR as2 k9 j2 0) (swapR c2 k9 j2 ([], [], 0)) (List.map Value.ref bs9).length j2 _ ah2 _ (by omega) (celsOk_swap (by omega) (by omega) hc2) hsr (hsp.nodup_iff.mpr (hP2.nodup_iff.mpr hb3)) (fun hm => hoff2.1 (hsp.mem_iff.mp hm)) (fun p hp hm => hoff2.2.2 p hp (hsp.mem_iff.mp hm)) (by omega) (by omega) ?msm hok2.2.1; (case msm => (rw [rowsOf_swap]; exact fun x hx => hok2.1 x (swapR_mem (by rw [rowsOf_length]; omega) (by rw [rowsOf_length]; omega) hx)))); (case k4 => refine swap_news (kst_newsOf (by k_asm) ?_) hrk hrj hl2; refine List.forall_mem_cons.mpr ⟨by walk_at "m_mem", ?_⟩; (intro p9 hp9; walk_at "m_mem")); (case kd => ktr_room); (case ku => ktr_units))); intro r9 nw9 h9 tk9 hR9 F9 N9; obtain ⟨rfl, cs9, rfl, hc9, hl9, hr9⟩ := hR9; (have hsq9 : Square (rowsOf cs9) := by rw [hr9]; exact bareissP_square hsr (by rw [rowsOf_length]; omega) _); (try dsimp only); (walk_at "kfold"))
    | ((k_dflt (refine' con_use ?k1 ?k2 ?k3 ?k4 ?k5 ?kK ?hc ?kd ?ku ?_; (case k1 => k_asm); (case k2 => k_asm); (case k3 => k_asm); (case k5 => k_asm); (case kK => first | exact rfl | assumption); (case hc => exact bareiss_step_c _ _ _ _ _ _ as2 c2 (List.map Value.ref bs9).length j2 _ ah2 _ hl2 hc2 hst2.2 (hP2.nodup_iff.mpr hb3) hoff2.1 hoff2.2.2 (by omega) (by omega) hok2.1 hok2.2.1); (case k4 => refine kst_newsOf (by k_asm) ?_; refine List.forall_mem_cons.mpr ⟨by walk_at "m_mem", ?_⟩; (intro p9 hp9; walk_at "m_mem")); (case kd => ktr_room); (case ku => ktr_units))); intro r9 nw9 h9 tk9 hR9 F9 N9; obtain ⟨rfl, cs9, rfl, hc9, hl9, hr9⟩ := hR9; (have hsq9 : Square (rowsOf cs9) := by rw [hr9]; exact bareissP_square hst2.2 (by rw [rowsOf_length]; omega) _); (try dsimp only); (walk_at "kfold"))
  k_with "refset" => k_dflt ((k_dflt (refine' ref_set ?F ?N hoff2.2.1 ?h0 ?h1 ?hf ?_; (case N => refine kst_newsOf (by k_asm) ?_; refine List.forall_mem_cons.mpr ⟨by walk_at "m_mem", ?_⟩; (intro p9 hp9; walk_at "m_mem")); (case F => k_asm); (case h0 => omega); (case h1 => first | omega | (rw [List.length_set]; omega)); (case hf => omega))); intro h9 F9 N9)
  k_with "sm" => first | exact hok2.2.2.2 | exact hok2.2.2.1
  walk_at "ksteps"
  · simp
  · exact LCg.CompEnd.intro (by k_asm) (by k_asm) _ (fun p hp => hp) off9 (.inr ⟨_, by walk_at "m_mem", rfl, _, rfl⟩) rfl
  · refine LCg.CompEnd.intro F9 N9 (_ :: _) ?_ ?_ ?_ ⟨D9, (c.1, c.2.1, c9), rfl, ?_, rfl, (show IntsAre c.1 c.2.1 from hc c (List.mem_of_getElem? hr2')), rfl⟩
    · intro p hp
      simp only [List.mem_cons] at hp ⊢
      rcases hp with hp | hp | hp | hp | hp
      · exact .inr (.inl hp)
      · exact .inr (.inr (.inl hp))
      · exact .inr (.inr (.inr (.inl hp)))
      · exact .inl hp
      · exact .inr (.inr (.inr (.inr hp)))
    · refine LCg.Off3.of fun p hp => ?_
      rcases List.mem_cons.mp hp with rfl | hp
      · exact ⟨Nat.ne_of_gt (l9 (I', oI') (by walk_at "m_mem")), Nat.ne_of_gt (l9 (C', oC') (by walk_at "m_mem")), Nat.ne_of_gt (l9 (D', _) (by walk_at "m_mem"))⟩
      · exact off9.mem p hp
    · exact .inr ⟨_, List.mem_cons_of_mem _ (List.mem_append_right _ (by walk_at "m_mem")), rfl, _, rfl⟩
    · intro p hp
      exact Nat.ne_of_lt (l9 p (List.mem_cons_of_mem _ (List.mem_cons_of_mem _ (List.mem_cons_of_mem _ hp))))
  · exact srcAt_mono ‹_› ‹_›
  · exact end_I hret (detP_none (detState_miss hp2 hpv) (by rw [rowsOf_length]; omega)).symm (by k_asm) (by k_asm) (by intro p9 hp9; walk_at "m_mem")
  · refine pmend_intro (as := swapR as2 k9 j2 0) (c' := cs9) (-sg2, _, _, _) (by assumption) (by k_asm) (fun p hp => List.mem_append_left _ hp) (fun p hp => List.mem_append_right _ hp) (hsp.trans hP2) hc9 hl9 (by kst_all) (by walk_at "m_same") ?_
    exact det_next_swap hp2 hpv (by omega) hr9 (by assumption)
  · refine pmend_intro (as := as2) (c' := cs9) (sg2, _, _, _) (by assumption) (by k_asm) (fun p hp => List.mem_append_left _ hp) (fun p hp => List.mem_append_right _ hp) hP2 hc9 hl9 (by kst_all) (by walk_at "m_same") ?_
    exact det_next_same hp2 hpv (by omega) hr9 (by assumption)
  · exact end_I hret (detP_some hp2 (by rw [rowsOf_length]; omega)) (by k_asm) (by k_asm) (by intro p9 hp9; walk_at "m_mem")
theorem wordsL27 : True := by
  k_with "conI" => (refine' determinant_c _ _ _ _ _ _ _ _ _ ?wqm ?wqM ?wql ?wqc ?wqq ?wqs ?wqo; (case wqm => k_extra "dt_m"); (case wqM => k_extra "dt_M"); (case wql => k_extra "dt_l"); (case wqc => k_extra "dt_c"); (case wqq => k_extra "dt_q"); (case wqs => k_extra "dt_s"); (case wqo => k_extra "dt_o"))
  k_with "L eval ListComp" => (k_here; (with_reducible show wpAny _ _ (PySem.eval (PySem.Expr.ListComp (PySem.Expr.Call _ _ _ _) [PySem.Comprehension.mk (PySem.Expr.Name _ _) _ [] 0] _ _) _) _ _ _); k_dflt (refine ListComp_cell (by k_asm) (by with_unfolding_all rfl) (by rfl) (by decide) (by intro n_w; rfl) (by intro h_w; rfl) (by rfl) ?_))
  k_with "CSrc" => (k_here; k_extra "csrc")
  k_with "L subscriptTail Name Slice ref ref" => (k_here; k_extra "slrefs")
  trivial
set_option maxRecDepth 100000 in
set_option maxHeartbeats 8000000 in
theorem leading_minors_c (w : World) (mean : ExcName → Option Value) (mg mb : Str → Option Value) (news : List (Addr × Obj)) (l : Addr) (as : List Addr) (cs : List Cel) (n : Nat)
    (hm : (l, listOf (as.map Value.ref).toArray n) ∈ news) (hM : ∀ p ∈ MatL as cs, p ∈ news) (hlen : cs.length = as.length) (hc : CelsOk cs) (hsq : Square (rowsOf cs)) (hs : as.length ≤ 500) (hok : ∀ i, i < as.length → DetOk (subM (rowsOf cs) (i + 1))) :
    ConL w mean mg mb 20 186 news [.ref l] ((List.range as.length).map fun i => detP (subM (rowsOf cs) (i + 1))) := by
  unfold ConL Con
  w_top off
  k_fill
  intro dp un gd cn cs' a' ccd cl outer A₀ base h₀ L m s Q E B F X N T hk hd hu hret
  replace N := news_cons N hm
  walk_at "enterC"
  have hMk : KstMark := kstMark
  have hq : ∀ x ∈ rowsOf cs, x.length = as.length := fun x hx => by rw [hsq x hx, rowsOf_length, hlen]
  have hqt : ∀ {K : Nat}, ∀ x ∈ rowsOf (cs.take K), x.length = as.length := fun x hx => hq x (List.mem_of_mem_take (by rw [rowsOf_take] at hx; exact hx))
  k_with "csrc" => k_dflt ((rename Fr _ _ _ _ => lF); (rename News _ _ _ _ => lN); (refine' CSrc.intro (fun i => detP (subM (rowsOf cs) (i + 1))) (by rfl) lF lN (by assumption) ?sm ?sz ?szl (fun s₂ hs₂ i t I oI C S oC oS D ys m₂ h tk E' hi hC hS F' N' => ?_) (fun ys D h tk hy F' N' o1 => ?_)); (case sm => exact small_one (by omega) (by omega) (by omega) (by omega)); (case sz => exact rangeSize_nat _ _); (case szl => rw [PySem.sizeLine_eq]; omega); (all_goals (try clear lF lN)); (all_goals (walk_at "kfold")))
  k_with "slrefs" => k_dflt first | ((refine' kms_slice_lit (zs := (as.take (1 + (i : Int)).toNat).map Value.ref) ?slF ?slN ?sll ?slp ?slq ?sle ?_ ?sls ?slt ?slz; (case slF => k_asm); (case slN => k_asm); (case sll => exact News.isList (by k_asm) (by walk_at "m_mem")); (case slp => kmk_part); (case slq => kmk_part); (case sle => exact pick_refs as (by omega)); (case sls => with_unfolding_all rfl); (case slt => kmk_pure); (case slz => ((simp only [List.size_toArray, List.length_map]); exact Nat.le_trans hs (by decide)))); intro D8 h8 F8 N8 l8) | ((refine' kmk_slice_ints (ms := c.2.1.take (1 + (i : Int)).toNat) (c := (c.2.1.take (1 + (i : Int)).toNat).length) ?siF ?siN (News.isList (by k_asm) (by walk_at "m_mem")) ?sip ?siq hci' (kmk_upto hci' (by omega)) rfl ?_ ?sis ?sit ?siz; (case siF => k_asm); (case siN => k_asm); (case sip => kmk_part); (case siq => kmk_part); (case sis => with_unfolding_all rfl); (case sit => kmk_pure); (case siz => (rw [List.size_toArray, show c.1.length = as.length from (celsOk_take hc _).row hr2' hqt]; exact Nat.le_trans hs (by decide)))); intro D9 ws9 h9 F9 N9 l9 hi9 hlen9 hle9)
  k_with "compRows" => (k_dflt (refine LCg.CompSrc.ledger (by rfl) (by k_asm) (by k_asm) (by walk_at "m_mem") (by simp only [List.size_toArray, List.length_map, List.length_take]; exact Nat.le_trans (Nat.min_le_right _ _) (Nat.le_trans hs (by decide))) ?_); intro g9; refine' comp_rowsG (as := as.take (1 + (i : Int)).toNat) (cs := cs.take (1 + (i : Int)).toNat) (List.take (1 + (i : Int)).toNat) (by rw [List.length_take, List.length_take, hlen]) (fun i' r c I' oI' C' oC' D' m' ys' bs' ds' h' tk' E' hr' hr2' hC' hx' F' N' off' ne' => ?_) ?_ (fun bs9 ds9 hb1 hb2 hb3 hb4 hb5 hb6 => ?_); (all_goals (try (have hmr' := hM _ (matL_take _ (matL_mem hr' hr2'))))); (all_goals (try k_dflt (have hci' := celsOk_take hc _ c (List.mem_of_getElem? hr2')))); (all_goals (try (have off9 := off'))); (all_goals (try (simp only [LCg.Off3, and_true] at off'))))
  k_with "dt_m" => walk_at "m_mem"
  k_with "dt_M" => (intro p9 hp9; walk_at "m_mem")
  k_with "dt_l" => exact hb2.trans hb1.symm
  k_with "dt_c" => exact hb5
  k_with "dt_q" => (rw [rowsOf_sub hb6]; exact subM_square hsq (by rw [rowsOf_length]; omega))
  k_with "dt_s" => (rw [hb1, List.length_take]; omega)
  k_with "dt_o" => (rw [rowsOf_sub hb6, show (1 + (i : Int)).toNat = i + 1 by omega]; exact hok i (by omega))
  walk_at "ksteps"
  · refine LCg.CompEnd.intro F9 N9 (_ :: _) ?_ ?_ ?_ ⟨D9, (ws9, c.2.1.take (1 + (i : Int)).toNat, 0), rfl, ?_, rfl, hi9, rfl⟩
    · intro p hp
      simp only [List.mem_cons] at hp ⊢
      rcases hp with hp | hp | hp | hp | hp
      · exact .inr (.inl hp)
      · exact .inr (.inr (.inl hp))
      · exact .inr (.inr (.inr (.inl hp)))
      · exact .inl hp
      · exact .inr (.inr (.inr (.inr hp)))
    · refine LCg.Off3.of fun p hp => ?_
      rcases List.mem_cons.mp hp with rfl | hp
      · exact ⟨Nat.ne_of_gt (l9 (I', oI') (by walk_at "m_mem")), Nat.ne_of_gt (l9 (C', oC') (by walk_at "m_mem")), Nat.ne_of_gt (l9 (D', _) (by walk_at "m_mem"))⟩
      · exact off9.mem p hp
    · exact .inr ⟨_, List.mem_cons_of_mem _ (List.mem_append_right _ (by walk_at "m_mem")), rfl, _, rfl⟩
    · intro p hp
      exact Nat.ne_of_lt (l9 p (List.mem_cons_of_mem _ (List.mem_cons_of_mem _ (List.mem_cons_of_mem _ hp))))
  · exact srcAt_mono ‹_› ‹_›
  · rw [rowsOf_sub hb6, show (1 + (i : Int)).toNat = i + 1 by omega]
  · k_asm
  · exact kst_newsOf (by k_asm) (by intro p9 hp9; walk_at "m_mem")
  · exact end_L hret (ints_cast (by rw [show ((as.length : Int) + 1 - 1).toNat = as.length by omega]) hy) (by k_asm) (by k_asm) (by walk_at "m_mem") (by walk_at "end_ne") (by intro p9 hp9; walk_at "m_mem")
theorem wordsL28 : True := by
  k_with "conL" => (refine' leading_minors_c _ _ _ _ _ _ _ _ _ ?wqm ?wqM ?wql ?wqc ?wqq ?wqs ?wqo; (case wqm => k_extra "lm_m"); (case wqM => k_extra "lm_M"); (case wql => k_extra "lm_l"); (case wqc => k_extra "lm_c"); (case wqq => k_extra "lm_q"); (case wqs => k_extra "lm_s"); (case wqo => k_extra "lm_o"))
  k_with "L setItem ref int" => (k_here; k_extra "poolset")
  trivial
noncomputable def drawTab : List Int := [1, 0, 5, 0, 1, 0, 2, 3, 3, 2]
noncomputable def drawP (xs : List Int) (k : Nat) (many : Int) : Int := if k < xs.length then ((xs.getD k 0).natAbs : Int) % many else (drawTab.getD (k % 10) 0) % many
theorem draw_in {xs : List Int} {k : Nat} {many : Int} (hm : 0 < many) (h : (k : Int) < (xs.length : Int)) : (if xs.getD (k : Int).toNat 0 < 0 then -xs.getD (k : Int).toNat 0 else xs.getD (k : Int).toNat 0).fmod many = drawP xs k many := by
  unfold drawP
  rw [if_pos (show k < xs.length by omega), Int.fmod_eq_emod_of_nonneg _ (by omega), Int.toNat_natCast]
  have e : (if xs.getD k 0 < 0 then -xs.getD k 0 else xs.getD k 0) = ((xs.getD k 0).natAbs : Int) := by split <;> omega
  rw [e]
theorem draw_out {xs : List Int} {k : Nat} {many : Int} (hm : 0 < many) (h : ¬ (k : Int) < (xs.length : Int)) : (([1, 0, 5, 0, 1, 0, 2, 3, 3, 2] : List Int).getD ((k : Int).fmod 10).toNat 0).fmod many = drawP xs k many := by
  unfold drawP drawTab
  rw [if_neg (show ¬ k < xs.length by omega), Int.fmod_eq_emod_of_nonneg _ (show 0 ≤ many by omega), Int.fmod_eq_emod_of_nonneg _ (by decide)]
  have e : ((k : Int) % 10).toNat = k % 10 := by omega
  rw [e]
set_option maxRecDepth 100000 in
set_option maxHeartbeats 8000000 in
theorem law_draw_c (w : World) (mean : ExcName → Option Value) (mg mb : Str → Option Value) (rest : List (Addr × Obj)) (P Sl : Addr) (np : Nat) (its : List Value) (xs : List Int) (ns : Nat) (k : Nat) (tk : Tok) (many : Int) (tm : Tok)
    (hm : (Sl, listOf its.toArray ns) ∈ rest) (hi : IntsAre its xs) (hs : xs.length ≤ 100) (hk0 : k ≤ 1000) (hmany : 0 < many) (hmany2 : many < 100) (hoff : ∀ p ∈ rest, p.1 ≠ P) :
    Con w mean mg mb 4 193 ((P, listOf #[.ref Sl, .int k tk] np) :: rest) [.ref P, .int many tm] (fun r nw => ∃ t tv, r = .int (drawP xs k many) t ∧ nw = (P, listOf #[.ref Sl, .int ((k + 1 : Nat) : Int) tv] np) :: rest) := by
  unfold Con
  w_top off
  k_fill
  intro dp un gd cn cs a' ccd cl outer A₀ base h₀ L m s Q E B F X N T hk hd hu hret
  refine wpAny_call ?_
  k_dflt ktr_enter
  walk_at "mfold"
  have hMk : KstMark := kstMark
  have hil := hi.length
  k_with "poolset" => k_dflt ((refine' two_set ?tsF ?tsN hoff ?_; (case tsF => k_asm); (case tsN => k_asm)); intro h' F' N')
  walk_at "ksteps"
  · exact hret _ ((P, listOf #[.ref Sl, .int ((k : Int) + 1) _] np) :: rest) _ _ ⟨_, _, congrArg (Value.int · _) (draw_in hmany (by assumption)), rfl⟩ (by k_asm) (by k_asm)
  · exact hret _ ((P, listOf #[.ref Sl, .int ((k : Int) + 1) _] np) :: rest) _ _ ⟨_, _, congrArg (Value.int · _) (draw_out hmany (by assumption)), rfl⟩ (by k_asm) (kst_newsOf (by k_asm) (fun p hp => List.mem_cons_of_mem _ hp))
/-- one turn of the parts: the spot, the parts, the degree -/
noncomputable def partsStep (xs : List Int) (st : Nat × List (List Int) × Int) : Nat × List (List Int) × Int :=
  if drawP xs st.1 2 = 0 ∧ st.2.2 < 4 then (st.1 + 3, st.2.1 ++ [[3 - drawP xs (st.1 + 1) 7, 1]], st.2.2 + 1)
  else if drawP xs st.1 2 = 1 ∧ st.2.2 < 3 then (st.1 + 3, st.2.1 ++ [[1 + (drawP xs (st.1 + 1) 7).fmod 3, drawP xs (st.1 + 2) 3 - 1, 1]], st.2.2 + 2)
  else (st.1 + 3, st.2.1, st.2.2)
noncomputable def partsAt (xs : List Int) : Nat → Nat × List (List Int) × Int
  | 0 => (1, [], 0)
  | i + 1 => partsStep xs (partsAt xs i)
noncomputable def partsP (xs : List Int) : Nat × List (List Int) × Int := partsAt xs (1 + drawP xs 0 3).toNat
theorem drawP_lo {xs : List Int} {k : Nat} {many : Int} (h : 0 < many) : 0 ≤ drawP xs k many := by
  unfold drawP
  split
  · exact Int.emod_nonneg _ (by omega)
  · exact Int.emod_nonneg _ (by omega)
theorem drawP_hi {xs : List Int} {k : Nat} {many : Int} (h : 0 < many) : drawP xs k many < many := by
  unfold drawP
  split
  · exact Int.emod_lt_of_pos _ h
  · exact Int.emod_lt_of_pos _ h
theorem partsAt_spot (xs : List Int) : ∀ i, (partsAt xs i).1 = 1 + 3 * i := by
  intro i
  induction i with
  | zero => rfl
  | succ i ih =>
    rw [partsAt]
    unfold partsStep
    split
    · simp only [ih]; omega
    · split
      · simp only [ih]; omega
      · simp only [ih]; omega
theorem parts_eqA {xs : List Int} {P Fd : Addr} {rest : List (Addr × Obj)} {i k2 nf2 : Nat} {tk2 tn2 : Tok} {as2 : List Addr} {cs2 : List Cel} {n2 : Int} (hp : PInv P Fd rest (partsAt xs i) (k2, tk2, as2, cs2, nf2, n2, tn2)) (h1 : drawP xs k2 2 = 0) (h2 : n2 < 4) :
    partsAt xs (i + 1) = (k2 + 3, (partsAt xs i).2.1 ++ [[3 - drawP xs (k2 + 1) 7, 1]], n2 + 1) := by
  have hk : k2 = (partsAt xs i).1 := hp.k
  have hn : n2 = (partsAt xs i).2.2 := hp.n
  rw [hk] at h1 ⊢
  rw [hn] at h2 ⊢
  rw [partsAt]; unfold partsStep
  rw [if_pos ⟨h1, h2⟩]
theorem parts_eqB {xs : List Int} {P Fd : Addr} {rest : List (Addr × Obj)} {i k2 nf2 : Nat} {tk2 tn2 : Tok} {as2 : List Addr} {cs2 : List Cel} {n2 : Int} (hp : PInv P Fd rest (partsAt xs i) (k2, tk2, as2, cs2, nf2, n2, tn2)) (h1 : drawP xs k2 2 = 1) (h2 : n2 < 3) :
    partsAt xs (i + 1) = (k2 + 3, (partsAt xs i).2.1 ++ [[1 + (drawP xs (k2 + 1) 7).fmod 3, drawP xs (k2 + 2) 3 - 1, 1]], n2 + 2) := by
  have hk : k2 = (partsAt xs i).1 := hp.k
  have hn : n2 = (partsAt xs i).2.2 := hp.n
  rw [hk] at h1 ⊢
  rw [hn] at h2 ⊢
  rw [partsAt]; unfold partsStep
  rw [if_neg (by omega), if_pos ⟨h1, h2⟩]
theorem parts_eqC {xs : List Int} {P Fd : Addr} {rest : List (Addr × Obj)} {i k2 nf2 : Nat} {tk2 tn2 : Tok} {as2 : List Addr} {cs2 : List Cel} {n2 : Int} (hp : PInv P Fd rest (partsAt xs i) (k2, tk2, as2, cs2, nf2, n2, tn2)) (h1 : ¬ (drawP xs k2 2 = 0 ∧ n2 < 4)) (h2 : ¬ (drawP xs k2 2 = 1 ∧ n2 < 3)) :
    partsAt xs (i + 1) = (k2 + 3, (partsAt xs i).2.1, (partsAt xs i).2.2) := by
  have hk : k2 = (partsAt xs i).1 := hp.k
  have hn : n2 = (partsAt xs i).2.2 := hp.n
  rw [hk, hn] at h1 h2
  rw [hk, partsAt]; unfold partsStep
  rw [if_neg h1, if_neg h2]
theorem wordsL29 : True := by
  k_with "L call builtin:list.append" => (k_here; (with_reducible show wpAny _ _ (call (Value.builtin _) [Value.ref _, Value.ref _]) _ _ _); k_extra "refpush")
  k_with "SGPost" => (dsimp only [SGPost])
  trivial
inductive PartsRes (rest : List (Addr × Obj)) (P Sl : Addr) (np : Nat) (xs : List Int) (r : Value) (nw : List (Addr × Obj)) : Prop
  | mk (Fd : Addr) (as : List Addr) (cs : List Cel) (nf : Nat) (tv : Tok)
    (c0 : r = .ref Fd)
    (c1 : nw = (P, listOf #[.ref Sl, .int ((partsP xs).1 : Int) tv] np) :: (Fd, listOf (as.map Value.ref).toArray nf) :: (MatL as cs ++ rest))
    (c2 : cs.length = as.length)
    (c3 : CelsOk cs)
    (c4 : rowsOf cs = (partsP xs).2.1)
    (c5 : as.Nodup)
    (c6 : Fd ∉ as)
    (c7 : P ∉ as)
    (c8 : P ≠ Fd)
    (c9 : ∀ p ∈ rest, p.1 ∉ as ∧ p.1 ≠ Fd) : PartsRes rest P Sl np xs r nw
set_option maxRecDepth 100000 in
set_option maxHeartbeats 8000000 in
theorem law_parts_c (w : World) (mean : ExcName → Option Value) (mg mb : Str → Option Value) (rest : List (Addr × Obj)) (P Sl : Addr) (np : Nat) (its : List Value) (xs : List Int) (ns : Nat) (tk₀ : Tok)
    (hm : (Sl, listOf its.toArray ns) ∈ rest) (hi : IntsAre its xs) (hs : xs.length ≤ 100) (hoff : ∀ p ∈ rest, p.1 ≠ P) :
    Con w mean mg mb 8 200 ((P, listOf #[.ref Sl, .int ((0 : Nat) : Int) tk₀] np) :: rest) [.ref P] (PartsRes rest P Sl np xs) := by
  unfold Con
  w_top off
  k_fill
  intro dp un gd cn cs' a' ccd cl outer A₀ base h₀ L m s Q E B F X N T hk hd hu hret
  refine wpAny_call ?_
  k_dflt ktr_enter
  walk_at "mfold"
  have hMk : KstMark := kstMark
  k_with "callmat" => k_dflt first
    | ((refine' con_use ?k1 ?k2 ?k3 ?k4 ?k5 ?kK ?hc ?kd ?ku ?_; (case k1 => k_asm); (case k2 => k_asm); (case k3 => k_asm); (case k5 => k_asm); (case kK => first | exact rfl | assumption); (case hc => exact law_draw_c _ _ _ _ _ P Sl np its xs ns k2 tkk2 2 _ (List.mem_cons_of_mem _ (List.mem_cons_of_mem _ (List.mem_append_right _ hm))) hi hs (by omega) (by decide) (by decide) ho2); (case k4 => refine kst_newsOf (by k_asm) ?_; walk_at "sub_all"); (case kd => ktr_room); (case ku => ktr_units)); intro r9 nw9 h9 tk9 hR9 F9 N9; obtain ⟨t9, tv9, rfl, rfl⟩ := hR9;  (try dsimp only); (walk_at "kfold"))
    | ((refine' con_use ?k1 ?k2 ?k3 ?k4 ?k5 ?kK ?hc ?kd ?ku ?_; (case k1 => k_asm); (case k2 => k_asm); (case k3 => k_asm); (case k5 => k_asm); (case kK => first | exact rfl | assumption); (case hc => exact law_draw_c _ _ _ _ _ P Sl np its xs ns (k2 + 1) tv9 7 _ (List.mem_cons_of_mem _ (List.mem_cons_of_mem _ (List.mem_append_right _ hm))) hi hs (by omega) (by decide) (by decide) ho2); (case k4 => refine kst_newsOf (by k_asm) ?_; walk_at "sub_all"); (case kd => ktr_room); (case ku => ktr_units)); intro r9 nw9 h9 tk9 hR9 F9 N9; obtain ⟨t9, tv9, rfl, rfl⟩ := hR9;  (try dsimp only); (walk_at "kfold"))
    | ((refine' con_use ?k1 ?k2 ?k3 ?k4 ?k5 ?kK ?hc ?kd ?ku ?_; (case k1 => k_asm); (case k2 => k_asm); (case k3 => k_asm); (case k5 => k_asm); (case kK => first | exact rfl | assumption); (case hc => exact law_draw_c _ _ _ _ _ P Sl np its xs ns (k2 + 2) tv9 3 _ (List.mem_cons_of_mem _ (List.mem_cons_of_mem _ (List.mem_append_right _ hm))) hi hs (by omega) (by decide) (by decide) ho2); (case k4 => refine kst_newsOf (by k_asm) ?_; walk_at "sub_all"); (case kd => ktr_room); (case ku => ktr_units)); intro r9 nw9 h9 tk9 hR9 F9 N9; obtain ⟨t9, tv9, rfl, rfl⟩ := hR9;  (try dsimp only); (walk_at "kfold"))
    | ((rename P < _ ∧ AllLt _ rest => hl9); (refine' con_use ?k1 ?k2 ?k3 ?k4 ?k5 ?kK ?hc ?kd ?ku ?_; (case k1 => k_asm); (case k2 => k_asm); (case k3 => k_asm); (case k5 => k_asm); (case kK => first | exact rfl | assumption); (case hc => exact law_draw_c _ _ _ _ ((_, listOf #[] 0) :: rest) P Sl np its xs ns 0 tk₀ 3 _ (List.mem_cons_of_mem _ hm) hi hs (by omega) (by decide) (by decide) (pair_off hl9 hoff)); (case k4 => refine kst_newsOf (by k_asm) ?_; walk_at "sub_all"); (case kd => ktr_room); (case ku => ktr_units)); intro r9 nw9 h9 tk9 hR9 F9 N9; obtain ⟨t9, tv9, rfl, rfl⟩ := hR9;  (try dsimp only); (walk_at "kfold"))
  k_with "loop" => k_dflt ((rename Fr _ _ _ _ => lF); (rename News _ _ _ _ => lN); (rename P < _ ∧ AllLt _ rest => hl9); (have hlo9 := drawP_lo (xs := xs) (k := 0) (many := 3) (by decide)); (have hhi9 := drawP_hi (xs := xs) (k := 0) (many := 3) (by decide)); (with_unfolding_all refine' grow_range (LedP P Sl np _ rest) PsP [Str.ofString "form", Str.ofString "place", Str.ofString "tilt"] (fun i c => PInv P _ rest (partsAt xs i) c) (1, _, [], [], 0, 0, _) (by rfl) (by assumption) ?sm ?sz lF lN ?ps0 (PInv.start hl9) (fun c2 i2 t2 I2 oI2 u2 h2 tk2 hi2 hp2 hI2 F2 N2 => ?_) (fun c2 u2 h2 tk2 hp2 F2 N2 => ?_)); (case sm => exact small_one (by omega) (by omega) (by omega) (by omega)); (case sz => exact rangeSize_nat _ _); (case ps0 => kst_all); (all_goals (try (have ho2 := hp2.off (oI := oI2) hoff hI2))); (all_goals (have hsp2 := hp2.k.trans (partsAt_spot xs _))); (all_goals (cases c2 using Mine.prod7 with | h k2 tkk2 as2 cs2 nf2 n2 tn2 => ?_)); (all_goals (dsimp only [LedP, PsP] at hsp2 F2 N2)); (all_goals (try (dsimp only [LedP, PsP] at hI2 ho2))); (all_goals (try clear lF lN)); (all_goals (walk_at "kfold")))
  k_with "refpush" => k_dflt ((rename _ < _ ∧ P < _ ∧ I2 < _ ∧ _ < _ ∧ AllLt _ (MatL as2 cs2 ++ rest) => hl8); (refine' ref_append ?raF ?raN (parts_apart hp2 hI2 hl8) ?raz ?_; (case raF => k_asm); (case raN => refine kst_newsOf (by k_asm) ?_; walk_at "sub_all"); (case raz => (have hz8 := hp2.sz; have hz7 := hp2.k; dsimp only at hz8 hz7; omega))); intro h8 F8 N8)
  walk_at "ksteps"
  · rename _ < _ ∧ P < _ ∧ I2 < _ ∧ _ < _ ∧ AllLt _ (MatL as2 cs2 ++ rest) => hl8
    refine' sgend_intro (k2 + 3, _, as2 ++ [_], cs2 ++ [(_, [3 - drawP xs (k2 + 1) 7, 1], _)], nf2 + 1, n2 + 1, _) ?qF ?qN ?qo ?q1 ?qz ?qp
    (case qF => assumption)
    (case qN => exact ledP_push _ hp2.len (by k_asm))
    (case qp => exact parts_push hp2 hl8 (by exact (.cons _ _ (.cons _ _ .nil))) (parts_eqA hp2 (by assumption) (by assumption)))
    (case qo => exact parts_off hp2.len hI2 hl8)
    (case q1 => kst_all)
    (case qz => walk_at "m_same")
  · refine' sgend_intro (k2 + 3, _, as2, cs2, nf2, n2, tn2) ?qF ?qN ?qo ?q1 ?qz ?qp
    (case qF => assumption)
    (case qN => refine kst_newsOf (by k_asm) ?_; walk_at "sub_all")
    (case qp => exact parts_same hp2 (parts_eqC hp2 (by omega) (by omega)))
    (case qo => exact same_off hI2)
    (case q1 => kst_all)
    (case qz => walk_at "m_same")
  · rename _ < _ ∧ P < _ ∧ I2 < _ ∧ _ < _ ∧ AllLt _ (MatL as2 cs2 ++ rest) => hl8
    refine' sgend_intro (k2 + 3, _, as2 ++ [_], cs2 ++ [(_, [1 + (drawP xs (k2 + 1) 7).fmod 3, drawP xs (k2 + 2) 3 - 1, 1], _)], nf2 + 1, n2 + 2, _) ?qF ?qN ?qo ?q1 ?qz ?qp
    (case qF => assumption)
    (case qN => exact ledP_push _ hp2.len (by k_asm))
    (case qp => exact parts_push hp2 hl8 (by exact (.cons _ _ (.cons _ _ (.cons _ _ .nil)))) (parts_eqB hp2 (by omega) (by omega)))
    (case qo => exact parts_off hp2.len hI2 hl8)
    (case q1 => kst_all)
    (case qz => walk_at "m_same")
  · refine' sgend_intro (k2 + 3, _, as2, cs2, nf2, n2, tn2) ?qF ?qN ?qo ?q1 ?qz ?qp
    (case qF => assumption)
    (case qN => refine kst_newsOf (by k_asm) ?_; walk_at "sub_all")
    (case qp => exact parts_same hp2 (parts_eqC hp2 (by omega) (by omega)))
    (case qo => exact same_off hI2)
    (case q1 => kst_all)
    (case qz => walk_at "m_same")
  · refine' sgend_intro (k2 + 3, _, as2, cs2, nf2, n2, tn2) ?qF ?qN ?qo ?q1 ?qz ?qp
    (case qF => assumption)
    (case qN => refine kst_newsOf (by k_asm) ?_; walk_at "sub_all")
    (case qp => exact parts_same hp2 (parts_eqC hp2 (by omega) (by omega)))
    (case qo => exact same_off hI2)
    (case q1 => kst_all)
    (case qz => walk_at "m_same")
  · rw [Int.sub_zero] at hp2
    have hk2 : k2 = (partsP xs).1 := hp2.k
    exact hret _ ((P, listOf #[.ref Sl, .int (k2 : Int) tkk2] np) :: (_, listOf (as2.map Value.ref).toArray nf2) :: (MatL as2 cs2 ++ rest)) _ _ ⟨_, as2, cs2, nf2, tkk2, rfl, by rw [← hk2], hp2.len, hp2.ok, hp2.rows, hp2.nodup, hp2.fd, hp2.p, hp2.pf, hp2.rest⟩ (by k_asm) (by k_asm)
noncomputable def entryP (f g : List Int) (n i j : Nat) : Int :=
  ((List.range (min (min i j) (n - 1 - max i j) + 1)).map fun k => f.getD (max i j + 1 + k) 0 * g.getD (min i j - k) 0 - f.getD (min i j - k) 0 * g.getD (max i j + 1 + k) 0).sum
/-- the matrix of Bezout as the law lays it -/
noncomputable def lawRowsP (f g : List Int) : List (List Int) :=
  (List.range (f.length - 1)).map fun i => (List.range (f.length - 1)).map fun j => entryP f (g ++ List.replicate (f.length - g.length) 0) (f.length - 1) i j
theorem rows_pad {xs zs : List Int} (h0 : 1 ≤ xs.length) (h : zs.length ≤ xs.length) : zs ++ (List.replicate ((xs.length : Int) - 1 + 1 - (zs.length : Int)).toNat [(0 : Int)]).flatten = zs ++ List.replicate (xs.length - zs.length) 0 := by
  rw [flat_rep, show ((xs.length : Int) - 1 + 1 - (zs.length : Int)).toNat = xs.length - zs.length by omega]
theorem sm_pad {zs : List Int} (k : Nat) (h : ∀ x ∈ zs, Sm x) : ∀ x ∈ zs ++ List.replicate (k - zs.length) 0, Sm x := fun x hx => by
  rcases List.mem_append.mp hx with hx | hx
  · exact h x hx
  · rw [(List.mem_replicate.mp hx).2]; exact sm_zero
theorem rows_inner {xs G : List Int} {i : Nat} {pre : List Int} {k : Int} {xsR : List Int} (hp : xsR = (List.range pre.length).map fun j => entryP xs G (xs.length - 1) i j) :
    xsR ++ [(List.map (fun k : Int => xs.getD (((max i pre.length : Nat) : Int) + 1 + k).toNat 0 * G.getD (((min i pre.length : Nat) : Int) - k).toNat 0 - xs.getD (((min i pre.length : Nat) : Int) - k).toNat 0 * G.getD (((max i pre.length : Nat) : Int) + 1 + k).toNat 0)
      (rangeKs 0 (((min (min i pre.length) (xs.length - 1 - 1 - max i pre.length) + 1 : Nat) : Int) - 0).toNat)).sum] = (List.range (pre ++ [k]).length).map fun j => entryP xs G (xs.length - 1) i j := by
  rw [List.length_append, List.length_singleton, List.range_succ, List.map_append, ← hp, List.map_singleton]
  congr 2
  unfold entryP
  rw [Int.sub_zero, Int.toNat_natCast, rangeKs_map]
  congr 1
  refine List.map_congr_left fun k _ => ?_
  have e1 : (((max i pre.length : Nat) : Int) + 1 + (k : Int)).toNat = max i pre.length + 1 + k := by omega
  have e2 : (((min i pre.length : Nat) : Int) - (k : Int)).toNat = min i pre.length - k := by omega
  simp only [e1, e2]
theorem rows_outer {f : Nat → List Int} {i n : Nat} {xsR : List Int} {g : Nat → Int} {a b : Int} (h : xsR = (List.range (rangeKs a b.toNat).length).map g) (hb : b.toNat = n) (hf : f i = (List.range n).map g) : (List.range i).map f ++ [xsR] = (List.range (i + 1)).map f := by
  rw [List.range_succ, List.map_append, List.map_singleton, hf, h, rangeKs_length, hb]
theorem rows_all {xs zs G : List Int} (hG : G = zs ++ List.replicate (xs.length - zs.length) 0) : ((List.range ((xs.length : Int) - 1 - 0).toNat).map fun i => (List.range (xs.length - 1)).map fun j => entryP xs G (xs.length - 1) i j) = lawRowsP xs zs := by
  unfold lawRowsP
  rw [hG, show ((xs.length : Int) - 1 - 0).toNat = xs.length - 1 by omega]
theorem cell_lo {i j : Nat} {k : Int} (h : k = 0 + (j : Int)) : (if k < (i : Int) then k else (i : Int)) = ((min i j : Nat) : Int) := by split <;> omega
theorem cell_hi {i j : Nat} {k : Int} (h : k = 0 + (j : Int)) : (if k > (i : Int) then k else (i : Int)) = ((max i j : Nat) : Int) := by split <;> omega
theorem row_many {n lo hi : Nat} (h : hi + 1 < n) : (if (n : Int) - 1 - 1 - (hi : Int) < (lo : Int) then (n : Int) - 1 - 1 - (hi : Int) else (lo : Int)) + 1 = ((min lo (n - 1 - 1 - hi) + 1 : Nat) : Int) := by split <;> omega
theorem row_hi {n i j : Nat} (h1 : 1 ≤ n) (hi : i < ((n : Int) - 1 - 0).toNat) (hj : j < ((n : Int) - 1 - 0).toNat) : max i j + 1 < n := by omega
theorem row_k {n i j : Nat} {k : Int} (h1 : 1 ≤ n) (hi : i < ((n : Int) - 1 - 0).toNat) (hj : j < ((n : Int) - 1 - 0).toNat) (hk : k < 0 + ((((min (min i j) (n - 1 - 1 - max i j) + 1 : Nat) : Int) - 0).toNat : Int)) : k ≤ ((min i j : Nat) : Int) ∧ ((max i j : Nat) : Int) + 1 + k < (n : Int) := by
  have h2 := Nat.min_le_left (min i j) (n - 1 - 1 - max i j)
  have h3 := Nat.min_le_right (min i j) (n - 1 - 1 - max i j)
  have h4 := row_hi h1 hi hj
  generalize min (min i j) (n - 1 - 1 - max i j) = u at *
  generalize max i j = v at *
  generalize min i j = t at *
  omega
theorem row_low {n i j : Nat} (h1 : 1 ≤ n) (hi : i < ((n : Int) - 1 - 0).toNat) : min i j < n := by
  have h2 := Nat.min_le_left i j
  generalize min i j = t at *
  omega
theorem row_s0 {n lo u : Nat} (h : lo < n) (hs : n ≤ 100) : min lo u + 1 ≤ 100 := by
  have h2 := Nat.min_le_left lo u
  generalize min lo u = t at *
  omega
theorem row_b1 {v : Nat} {k : Int} (h0 : 0 ≤ k) : 0 ≤ (v : Int) + 1 + k := by omega
theorem row_b2 {n : Nat} {x : Int} (h : x < (n : Int)) (hs : n ≤ 100) : x < 2 ^ 63 := by omega
theorem row_b3 {t k : Int} (h : k ≤ t) : 0 ≤ t - k := by omega
theorem row_b4 {t n : Nat} {k : Int} (h : t < n) (h0 : 0 ≤ k) : (t : Int) - k < (n : Int) := by omega
local macro_rules | `(tactic| l_idx) => `(tactic| with_reducible assumption)
theorem ex_cell {o : Obj} {P : Prop} (hd : ∃ v, o.data = .cell v) (k : ∀ v, o.data = .cell v → P) : P := hd.elim k
theorem wordsL30 : True := by
  k_with "L storeName" => (k_here; k_extra "cellset")
  k_with "L call builtin:list.append" => (k_here; (with_reducible show wpAny _ _ (call (Value.builtin _) [Value.ref _, Value.int _ _]) _ _ _); k_extra "intpush")
  trivial
inductive RowsRes (news : List (Addr × Obj)) (xs zs : List Int) (r : Value) (nw : List (Addr × Obj)) : Prop
  | mk (Fd : Addr) (as : List Addr) (cs : List Cel) (nf : Nat)
    (c0 : r = .ref Fd)
    (c1 : nw = (Fd, listOf (as.map Value.ref).toArray nf) :: (MatL as cs ++ news))
    (c2 : cs.length = as.length)
    (c3 : CelsOk cs)
    (c4 : rowsOf cs = lawRowsP xs zs)
    (c5 : as.Nodup)
    (c6 : Fd ∉ as)
    (c7 : ∀ p ∈ news, p.1 ∉ as ∧ p.1 ≠ Fd) : RowsRes news xs zs r nw
set_option maxRecDepth 100000 in
set_option maxHeartbeats 8000000 in
theorem law_rows_c (w : World) (mean : ExcName → Option Value) (mg mb : Str → Option Value) (news : List (Addr × Obj)) (l : Addr) (its : List Value) (n : Nat) (xs : List Int) (hm : (l, listOf its.toArray n) ∈ news) (hi : IntsAre its xs) (hs : xs.length ≤ 100) (hs0 : 1 ≤ xs.length)
    (l2 : Addr) (its2 : List Value) (n2 : Nat) (zs : List Int) (hm2 : (l2, listOf its2.toArray n2) ∈ news) (hi2 : IntsAre its2 zs) (hs2 : zs.length ≤ xs.length) (ho : ∀ x ∈ xs, Sm x) (ho2 : ∀ x ∈ zs, Sm x) :
    Con w mean mg mb 4 205 news [.ref l, .ref l2] (RowsRes news xs zs) := by
  unfold Con
  w_top off
  k_fill
  intro dp un gd cn cs' a' ccd cl outer A₀ base h₀ L m s Q E B F X N T hk hd hu hret
  replace N := news_cons N hm
  replace N := news_cons N (List.mem_cons_of_mem _ hm2)
  walk_at "enterC"
  have hMk : KstMark := kstMark
  have hil := hi.length
  have hil2 := hi2.length
  k_with "loop" => k_dflt first
    | (k_of "i" => ((rename Fr _ _ _ _ => lF); (rename News _ _ _ _ => lN); (rename l2 < _ ∧ l < _ ∧ AllLt _ news => hL8); (rename _ < _ ∧ _ < _ ∧ _ + 1 + 1 + 1 + 1 < _ ∧ _ ∧ _ ∧ _ ∧ l2 < _ ∧ l < _ ∧ AllLt _ news => hG8); (rename _ < _ ∧ _ < _ ∧ _ < _ ∧ _ + 1 + 1 + 1 + 1 < _ ∧ _ ∧ _ ∧ _ ∧ l2 < _ ∧ l < _ ∧ AllLt _ news => hF8); (have hst8 := rows_start lN hF8 hG8 hL8 (by assumption) (by assumption)); (rename IntsAre _ (zs ++ _) => hgi); (replace hgi := ints_cast (rows_pad hs0 hs2) hgi); (have hog := sm_pad xs.length ho2); (obtain ⟨G, hGd⟩ : ∃ G, G = zs ++ List.replicate (xs.length - zs.length) 0 := ⟨_, rfl⟩); (have hGl : G.length = xs.length := by rw [hGd, List.length_append, List.length_replicate]; omega); (rw [← hGd] at hgi hog); (have hgl := hgi.length); (with_unfolding_all refine' grow_range (LedR _ _ _ _) (fun _ => []) [Str.ofString "row", Str.ofString "j", Str.ofString "some"] (fun i c => RInv _ _ _ _ ((List.range i).map fun i => (List.range (xs.length - 1)).map fun j => entryP xs G (xs.length - 1) i j) c) _ (by rfl) (by assumption) ?sm ?sz lF hst8.1 (fun _ h => nomatch h) hst8.2 (fun c2 i2 t2 I2 oI2 u2 h2 tk2 hi2 hp2 hI2 F2 N2 => ?_) (fun c2 u2 h2 tk2 hp2 F2 N2 => ?_)); (case sm => exact small_one (by omega) (by omega) (by omega) (by omega)); (case sz => exact rangeSize_nat _ _); (all_goals (try (have hp2n := hp2.len))); (all_goals (cases c2 using Mine.prod5 with | h as2 cs2 nf2 o42 o32 => ?_)); (all_goals (dsimp only [LedR] at F2 N2)); (all_goals (try (simp only [Int.zero_add] at F2))); (all_goals (try clear lF lN)); (all_goals (walk_at "kfold"))))
    | (k_of "j" => ((rename Fr _ _ _ _ => lF); (rename News _ _ _ _ => lN); (rename I2 < _ ∧ _ < _ ∧ _ < _ ∧ _ < _ ∧ _ => hl8); (have hof8 := hp2.offs hI2 hl8); (with_unfolding_all refine' kst_range (σ := ISt) (LedI _ _ _ _) PsI FaI [Str.ofString "some"] (fun pre c => c.2.1 = (List.range pre.length).map fun j => entryP xs G (xs.length - 1) i2 j) _ (by rfl) (by assumption) ?smB ?szB lF (ledI_start lN) ⟨.nil, hp2.d4, hp2.d3⟩ (fun _ h => nomatch h) rfl (fun c3 pre3 k3 t3 u3 h3 tk3 own3 hk3 hlt3 hoff3 hf3 hp3 F3 N3 => ?_) (fun c3 u3 h3 tk3 hf3 hp3 F3 N3 => ?_)); (case smB => exact small_one (by omega) (by omega) (by omega) (by omega)); (case szB => exact rangeSize_nat _ _); (all_goals (try (have hof3 := inner_offs hof8.1 hof8.2.2.1 hof8.2.2.2.1 hof8.2.2.2.2 hoff3))); (all_goals (cases c3 using Mine.prod5 with | h itsR xsR nR o43 o33 => ?_)); (all_goals (have hiR := hf3.1)); (all_goals (have hd4 := hf3.2.1)); (all_goals (have hd3 := hf3.2.2)); (all_goals (dsimp only [LedI, PsI] at F3 N3 hiR hd4 hd3 hp3)); (all_goals (try (simp only [List.cons_append] at N3))); (all_goals (try (simp only [List.cons_append] at hof3))); (all_goals (try clear lF lN)); (all_goals (walk_at "kfold"))))
  k_with "cellset" => k_dflt first
    | ((refine ex_cell hd3 fun v33 hd33 => ?_); (refine' cell_set (.int ((min i2 pre3.length : Nat) : Int) _) ?csF ?csN hof3.1 hd33 (by rfl) ?csv ?_ (by rfl) (by rfl); (case csF => k_asm); (case csN => exact np_low (by k_asm)); (case csv => (refine vint ?_; first | exact cell_lo (by assumption) | (split <;> omega)))); intro h8 oL8 dL8 F8 N8)
    | ((refine ex_cell hd4 fun v43 hd44 => ?_); (refine' cell_set (.int ((max i2 pre3.length : Nat) : Int) _) ?ctF ?ctN hof3.2.1 hd44 (by rfl) ?ctv ?_ (by rfl) (by rfl); (case ctF => k_asm); (case ctN => exact np_high (by k_asm)); (case ctv => (refine vint ?_; first | exact cell_hi (by assumption) | (split <;> omega)))); intro h7 oH8 dH8 F7 N7)
    | ((rename IsRange _ _ _ _ _ _ _ _ => hR8); (rename News _ _ _ _ => lN); (have N6 := range_news (by k_asm) hR8 lN); (refine' local_set (n := Str.ofString "some") ?cuF N6 (by rfl) (by rfl) ?_; (case cuF => k_asm)); (clear N6 lN); intro h6 F6 N6)
  k_with "compRows" => k_dflt ((have hc9 := row_s0 (lo := min i2 pre3.length) (u := xs.length - 1 - 1 - max i2 pre3.length) (row_low hs0 (by assumption)) hs); (refine LCg.CompSrc.range (b := ((min (min i2 pre3.length) (xs.length - 1 - 1 - max i2 pre3.length) + 1 : Nat) : Int)) (by rfl) (by k_asm) (by k_asm) (isRange_cast ?crb (N6 _ List.mem_cons_self).1) ?crs (by exact rangeSize_nat _ _) ?crz ?_); (case crb => first | exact row_many (row_hi hs0 (by assumption) (by assumption)) | (split <;> omega)); (case crs => exact small_one (by omega) (by omega) (by omega) (by omega)); (case crz => (rw [PySem.sizeLine_eq]; omega)); intro g5; (refine' kcf_range (fun k => xs.getD ((max i2 pre3.length : Nat) + 1 + k).toNat 0 * G.getD ((min i2 pre3.length : Nat) - k).toNat 0 - xs.getD ((min i2 pre3.length : Nat) - k).toNat 0 * G.getD ((max i2 pre3.length : Nat) + 1 + k).toNat 0) (fun k' t' I' oI' C' oC' D' m' ys' h' tk' E' hlo' hhi' hC' hx' F' N' off' ne' hMark' => ?_) ?_); (focus ((have hb0 := row_k hs0 (by assumption) (by assumption) hhi'); (have hb1 := row_b1 (v := max i2 pre3.length) hlo'); (have hb2 := hb0.2); (have hb3 := row_b2 hb2 hs); (have hb4 := row_b3 hb0.1); (have hb5 := row_b4 (row_low (i := i2) (j := pre3.length) hs0 (by assumption)) hlo'); (have hb6 := row_b2 hb5 hs); (have hb7 := hb2); (have hb8 := hb5); (rw [← hGl] at hb7 hb8); clear hb0)))
  k_with "sm" => first | exact sm_getD ho _ | exact sm_getD hog _
  k_with "intpush" => k_dflt ((refine' int_append ?ipF ?ipN hof3.2.2 hiR ?ipz ?_; (case ipF => k_asm); (case ipN => exact np_int (by k_asm)); (case ipz => (rw [hp3, List.length_map, List.length_range]; omega))); intro h5 F5 N5 hiR5)
  k_with "refpush" => k_dflt ((have hz8 : as2.length = i2 := by rw [← hp2n, ← rowsOf_length, hp2.rows, List.length_map, List.length_range]); (refine' ref_append ?raF ?raN hof8.2.1 ?raz ?_; (case raF => k_asm); (case raN => exact np_ref (by k_asm)); (case raz => omega)); intro h5 F5 N5)
  walk_at "ksteps"
  · refine' kst_end (itsR ++ [_], xsR ++ [_], nR + 1, oH8, oL8) (by assumption) (by k_asm) np_led.1 np_led.2 (by rfl) ⟨hiR5, ⟨_, dH8⟩, ⟨_, dL8⟩⟩ (fun _ h => nomatch h) (by walk_at "m_same") (rows_inner hp3)
  · refine' sgend_intro (as2 ++ [_], cs2 ++ [(itsR, xsR, nR)], nf2 + 1, o43, o33) (by assumption) (ledR_push _ hp2.len (by k_asm)) (ledR_off hp2.len hI2 hl8.1) (fun _ h => nomatch h) (by walk_at "m_same") ?_
    exact hp2.push hl8 hiR hd4 hd3 (rows_outer hp3 (by omega) rfl)
  · exact hret _ ((_, listOf (as2.map Value.ref).toArray nf2) :: (MatL as2 cs2 ++ news)) _ _ ⟨_, as2, cs2, nf2, rfl, rfl, hp2.len, hp2.ok, hp2.rows.trans (rows_all hGd), hp2.nodup, hp2.fd, fun p hp => ⟨(hp2.rest p (by walk_at "m_mem")).1, (hp2.rest p (by walk_at "m_mem")).2.1⟩⟩ (by k_asm) (kst_newsOf (by k_asm) (by
      refine List.forall_mem_cons.mpr ⟨by walk_at "m_mem", fun p9 hp9 => ?_⟩
      rcases List.mem_append.mp hp9 with hp9 | hp9
      · walk_at "m_mem"
      · walk_at "m_mem"))
theorem wordsL31 : True := by
  k_with "L exec For Name Call cons nil" => (k_here; k_dflt ((rename Fr _ _ _ _ => lF); (refine For_cellF lF (by rfl) (by rfl) (by rfl) ?_)))
  k_with "L call type:set" => (k_here; k_extra "setof")
  k_with "L call builtin:sorted" => (k_here; k_extra "sortof")
  k_with "ForCAt" => (k_here; k_extra "forcat")
  k_with "SCPost" => (dsimp only [SCPost])
  trivial
theorem firstMet_dom {ns : List Int} (h : ∀ r ∈ ns, -3 ≤ r ∧ r ≤ 3) : ∀ x ∈ firstMet (fun i => ns.getD i 0) ns.length, -3 ≤ x ∧ x ≤ 3 := fun x hx => by
  obtain ⟨j, hj, rfl⟩ := (firstMet_mem _ _ _).mp hx
  have e : ns.getD j 0 = ns[j] := by simp [hj]
  rw [e]
  exact h _ (List.getElem_mem _)
theorem wordsL32 : True := by
  k_with "m_same2" => (intro z_w h2_w h3_w; (try simp only [List.contains_cons, List.contains_nil, Bool.or_false, Bool.or_eq_false_iff, beq_eq_false_iff_ne, ne_eq] at h3_w); (try simp only [List.forall_mem_cons, List.not_mem_nil, false_implies, implies_true, and_true, ne_eq] at h2_w); first | rfl | (simp +zetaDelta [kstB, h2_w, h3_w]; done))
  trivial
theorem rootG_two {l xs : List Int} (h : (xs.length : Int) = 2) : rootG l xs = l ++ [0 - xs.getD (Int.toNat 0) 0] := by unfold rootG; rw [if_pos (by omega)]; rfl
theorem rootG_not {l xs : List Int} (h : ¬ (xs.length : Int) = 2) : rootG l xs = l := by unfold rootG; rw [if_neg (by omega)]
theorem otherG_yes {r o : Int} {l : List Int} (h : o ≠ r) : otherG r l o = l ++ [o] := by unfold otherG; rw [if_pos h]
theorem otherG_no {r o : Int} {l : List Int} (h : ¬ o ≠ r) : otherG r l o = l := by unfold otherG; rw [if_neg h]
theorem idx_pos {roots g : List Int} {r v : Int} (hv : v = idxVal roots g r) (h1 : ((roots.count r : Nat) : Int).fmod 2 = 1) (h2 : v ≠ 0) (h3 : v > 0) : idxTerm roots g r = 1 := by
  rw [Int.fmod_eq_emod_of_nonneg _ (by decide)] at h1
  unfold idxTerm
  rw [← hv, if_pos ⟨by omega, h2⟩, if_pos h3]
theorem idx_neg {roots g : List Int} {r v : Int} (hv : v = idxVal roots g r) (h1 : ((roots.count r : Nat) : Int).fmod 2 = 1) (h2 : v ≠ 0) (h3 : ¬ v > 0) : idxTerm roots g r = -1 := by
  rw [Int.fmod_eq_emod_of_nonneg _ (by decide)] at h1
  unfold idxTerm
  rw [← hv, if_pos ⟨by omega, h2⟩, if_neg h3]
theorem idx_zero {roots g : List Int} {r v : Int} (hv : v = idxVal roots g r) (h2 : ¬ v ≠ 0) : idxTerm roots g r = 0 := by
  unfold idxTerm
  rw [← hv, if_neg (fun h => h2 h.2)]
theorem idx_even {roots g : List Int} {r : Int} (h1 : ¬ ((roots.count r : Nat) : Int).fmod 2 = 1) : idxTerm roots g r = 0 := by
  rw [Int.fmod_eq_emod_of_nonneg _ (by decide)] at h1
  unfold idxTerm
  rw [if_neg (fun h => h1 (by omega))]
theorem otherG_grows (r : Int) : KPfGrows (otherG r) := fun l k => by unfold otherG; split <;> simp
theorem bd_three {x : Int} (h1 : -6 ≤ x) (h2 : x ≤ 6) : Bd 3 x := by
  unfold Bd
  have : (2 : Nat) ^ 3 = 8 := by decide
  omega
set_option maxRecDepth 100000 in
set_option maxHeartbeats 8000000 in
theorem law_index_c (w : World) (mean : ExcName → Option Value) (mg mb : Str → Option Value) (news : List (Addr × Obj)) (l : Addr) (as : List Addr) (cs : List Cel) (n : Nat)
    (hm : (l, listOf (as.map Value.ref).toArray n) ∈ news) (hM : ∀ p ∈ MatL as cs, p ∈ news) (hlen : cs.length = as.length) (hc : CelsOk cs) (hrow : ∀ x ∈ rowsOf cs, 1 ≤ x.length ∧ x.length ≤ 10) (has : as.length ≤ 500)
    (hr3 : (rootsOf (rowsOf cs)).length ≤ 3) (hrd : ∀ r ∈ rootsOf (rowsOf cs), -3 ≤ r ∧ r ≤ 3)
    (l2 : Addr) (its2 : List Value) (n2 : Nat) (zs : List Int) (hm2 : (l2, listOf its2.toArray n2) ∈ news) (hi2 : IntsAre its2 zs) (hz : ∀ r, -3 ≤ r → r ≤ 3 → Bd 1000 (zatP zs r)) :
    ConI w mean mg mb 8 210 news [.ref l, .ref l2] (indexP (rootsOf (rowsOf cs)) zs) := by
  unfold ConI Con
  w_top off
  k_fill
  intro dp un gd cn cs' a' ccd cl outer A₀ base h₀ L m s Q E B F X N T hk hd hu hret
  replace N := news_cons N hm
  replace N := news_cons N (List.mem_cons_of_mem _ hm2)
  walk_at "enterC"
  have hMk : KstMark := kstMark
  k_with "compT" => k_dflt first
    | ((refine LCt.CompSrcT.ledger (its := ys9.toArray) (by rfl) (by k_asm) (by k_asm) (by walk_at "m_mem") (by rw [List.size_toArray, hy9.length]; exact Nat.le_trans hr3 (by decide)) ?_); intro g8; (refine' kci_list (otherG n3) hy9 (fun k' t' I' oI' C' oC' D' m' ys' l' h' tk' E' hk' hI' hC' hx' F' N' off' ne' hMark' => ?_) (fun ys8 hy8 hl8 => ?_) (otherG_grows _)); (all_goals (try (have off9 := off'))); (all_goals (try (simp only [LCg.Off3, and_true] at off'))))
    | ((refine LCt.CompSrcT.ledger (by rfl) (by k_asm) (by k_asm) (by walk_at "m_mem") (by simp only [List.size_toArray, List.length_map]; exact Nat.le_trans has (by decide)) ?_); intro g9; (refine' comp_filt_rows rootG hlen hc (fun r its0 xs0 nn0 I' oI' C' oC' D' m' ys' l' h' tk' E' hr' hx0' hi' hil' hiy' hC' hx' F' N' off' ne' => ?_) (fun ys9 hy9 => ?_)); (all_goals (try (have hmr' := hM _ hr'))); (all_goals (try (have hrw' := hrow _ hx0'))); (all_goals (try (have off9 := off'))); (all_goals (try (simp only [LCg.Off3, and_true] at off'))); (all_goals (try (change IntsAre ys9 (rootsOf (rowsOf cs)) at hy9))))
  k_with "setof" => k_dflt ((rename Fr _ _ _ _ => lF); (rename News _ _ _ _ => lN); (refine' set_N (by rfl) lF lN ?som hy9 hr3 hrd ?_; (case som => walk_at "m_mem")); (clear lF lN); intro D6 h6 tk6 F6 N6 S6)
  k_with "sortof" => k_dflt ((refine' sorted_N3 (by rfl) F6 N6 S6 (firstMet_nodup _ _) (Nat.le_trans (firstMet_length_le _ _) hr3) (firstMet_dom hrd) ?_); intro D7 vs7 ns7 c7 h7 tk7 F7 N7 l7 i7 p7 o7)
  k_with "forcat" => k_dflt ((rename l2 < _ ∧ l < _ ∧ AllLt _ news => hL8); (rename _ + 1 ≠ _ ∧ l2 ≠ _ ∧ l ≠ _ ∧ LCg.Off1 _ news => ho8); (have hst := idx_start N7 l7 ho8.1 hL8); (refine' forc_intro (σ := Int × Tok) (fun st => [(Str.ofString "found", .int st.1 st.2)]) [Str.ofString "value", Str.ofString "other"] (fun i st => st.1 = ((ns7.take i).map (idxTerm (rootsOf (rowsOf cs)) zs)).sum) (0, _) (by rfl) List.mem_cons_self i7 F7 hst.1 ?fcd hst.2 ?fcp rfl (fun st3 i3 n3 t3 oc3 u3 I3 oI3 h3 tk3 hn3 hp3 hd3 ho3 F3 N3 => ?_) (fun st3 u3 oc3 h3 tk3 hp3 hd3 F3 N3 => ?_)); (case fcd => assumption); (case fcp => kst_all); (all_goals (obtain ⟨fd3, tf3⟩ := st3)); (all_goals (dsimp only at hp3 F3)); (all_goals (try (have hrt := firstMet_dom hrd n3 (p7.mem_iff.mp (List.mem_of_getElem? hn3))))); (all_goals (walk_at "kfold")))
  k_with "loop" => k_dflt ((rename Fr _ _ _ _ => lF); (rename News _ _ _ _ => lN); (have hom := otherG_mem n3 (rootsOf (rowsOf cs)) []); (with_unfolding_all refine' kst_listL (σ := Int × Tok) (fun _ => _) (fun c => [(Str.ofString "value", .int c.1 c.2)]) (fun _ => True) [] (fun pre c => c.1 = pre.foldl (mulG n3) (zatP zs n3) ∧ Bd (1000 + 3 * pre.length) c.1) (zatP zs n3, _) (by rfl) (fun _ => List.mem_cons_self) hy8 lF lN trivial ?lps ⟨rfl, hz n3 hrt.1 hrt.2⟩ (fun c4 pre4 post4 n4 t4 u4 h4 tk4 own4 e4 hn4 hoff4 _ hp4 F4 N4 => ?_) (fun c4 u4 h4 tk4 _ hp4 F4 N4 => ?_)); (case lps => kst_all); (all_goals (obtain ⟨v4, tv4⟩ := c4)); (all_goals (dsimp only at hp4 F4)); (all_goals (try (have h4d := hrd n4 ((hom.1 n4 hn4).resolve_left (fun h => nomatch h))))); (all_goals (try (have h4l : pre4.length ≤ 3 := by have h7 := hom.2; rw [e4] at h7; simp only [List.length_append, List.length_cons, List.length_nil] at h7; omega))); (all_goals (try (simp only [List.cons_append] at N4))); (all_goals (try clear lF lN)); (all_goals (walk_at "kfold")))
  k_with "sm" => first | exact hp4.2.sm (by omega) | exact (bd_three (by omega) (by omega)).sm (by decide)
  k_with "zat1" => exact Int.lt_of_lt_of_le (by decide) hrt.1
  k_with "zat2" => exact Int.lt_of_le_of_lt hrt.2 (by decide)
  walk_at "ksteps"
  · exact LCg.CompEnd.intro (by k_asm) (by k_asm) _ (fun p hp => hp) off9 (.inr ⟨_, by walk_at "m_mem", rfl, _, rfl⟩) (kci_el (rootG_two (by assumption)) rfl rfl)
  · exact LCg.CompEnd.intro (by k_asm) (by k_asm) _ (fun p hp => hp) off9 (.inr ⟨_, by walk_at "m_mem", rfl, _, rfl⟩) (kci_no (rootG_not (by assumption)) rfl)
  · exact LCg.CompEnd.intro (by k_asm) (by k_asm) _ (fun p hp => hp) off9 (.inr ⟨_, by walk_at "m_mem", rfl, _, rfl⟩) (kci_el (otherG_yes (by assumption)) rfl rfl)
  · exact LCg.CompEnd.intro (by k_asm) (by k_asm) _ (fun p hp => hp) off9 (.inr ⟨_, by walk_at "m_mem", rfl, _, rfl⟩) (kci_no (otherG_no (by omega)) rfl)
  · rename News _ _ _ _ => nE'
    refine' kst_end (v4 * (n3 - n4), _) (by assumption) nE' ?a1 ?a2 (by rfl) trivial ?a4 ?a5 ?a6
    (case a1 => walk_at "sub_all")
    (case a2 => (intro p9 hp9; walk_at "m_mem"))
    (case a4 => kst_all)
    (case a5 => walk_at "m_same")
    (case a6 => exact ⟨by rw [List.foldl_append, ← hp4.1]; rfl, by rw [List.length_append, List.length_singleton]; exact (hp4.2.mul (bd_three (by omega) (by omega))).mono (by omega)⟩)
  · refine' scend_intro (fd3 + 1, _) ?cF ?cN ⟨_, hd3⟩ ?c1 ?cz ?cp
    (case cF => assumption)
    (case cN => exact kst_newsOf (by k_asm) (fun p hp => List.mem_cons_of_mem _ hp))
    (case c1 => kst_all)
    (case cz => walk_at "m_same2")
    (case cp => (show _ = _; rw [take_sum hn3, ← hp3, idx_pos (hp4.1.trans (idxVal_eq _ _ _).symm) (by assumption) (by assumption) (by assumption)]))
  · refine' scend_intro (fd3 + -1, _) ?cF ?cN ⟨_, hd3⟩ ?c1 ?cz ?cp
    (case cF => assumption)
    (case cN => exact kst_newsOf (by k_asm) (fun p hp => List.mem_cons_of_mem _ hp))
    (case c1 => kst_all)
    (case cz => walk_at "m_same2")
    (case cp => (show _ = _; rw [take_sum hn3, ← hp3, idx_neg (hp4.1.trans (idxVal_eq _ _ _).symm) (by assumption) (by assumption) (by assumption)]))
  · refine' scend_intro (fd3, _) ?cF ?cN ⟨_, hd3⟩ ?c1 ?cz ?cp
    (case cF => assumption)
    (case cN => exact kst_newsOf (by k_asm) (fun p hp => List.mem_cons_of_mem _ hp))
    (case c1 => kst_all)
    (case cz => walk_at "m_same2")
    (case cp => (show _ = _; rw [take_sum hn3, ← hp3, idx_zero (hp4.1.trans (idxVal_eq _ _ _).symm) (by omega)]; omega))
  · refine' scend_intro (fd3, _) ?cF ?cN ⟨_, hd3⟩ ?c1 ?cz ?cp
    (case cF => assumption)
    (case cN => exact kst_newsOf (by k_asm) (fun p hp => List.mem_cons_of_mem _ hp))
    (case c1 => kst_all)
    (case cz => walk_at "m_same2")
    (case cp => (show _ = _; rw [take_sum hn3, ← hp3, idx_even (by assumption)]; omega))
  · refine end_I hret ?_ (by k_asm) (by k_asm) (by intro p9 hp9; walk_at "m_mem")
    rw [hp3, List.take_length]
    exact sum_perm (p7.map _)
section
noncomputable def partsL (xs : List Int) : List (List Int) := (partsP xs).2.1
noncomputable def polyF (xs : List Int) : List Int := polyL (partsL xs)
noncomputable def gRaw (xs : List Int) : List Int := ztrimP ((List.range ((((polyF xs).length - 1 : Nat) : Int) - 0).toNat).map fun i => drawP xs ((partsP xs).1 + i) 5 - 2)
noncomputable def gP (xs : List Int) : List Int := if gRaw xs = [] then [1] else gRaw xs
noncomputable def minorsP (M : List (List Int)) : List Int := (List.range M.length).map fun i => detP (subM M (i + 1))
/-- the parts that the law draws -/
noncomputable def In7 (a : Int) : Prop := a ∈ dom7
noncomputable def quads : List (List Int) := [1, 2, 3].flatMap fun c => [-1, 0, 1].map fun b => [c, b, 1]
noncomputable def lins : List (List Int) := dom7.map fun a => [a, 1]
noncomputable def shapes : List (List (List Int)) :=
  (lins.map fun p => [p]) ++ (quads.map fun p => [p]) ++ (lins.flatMap fun p => lins.map fun q => [p, q]) ++ (lins.flatMap fun p => quads.map fun q => [p, q]) ++ (quads.flatMap fun p => lins.map fun q => [p, q]) ++ (quads.flatMap fun p => quads.map fun q => [p, q])
  ++ (lins.flatMap fun p => lins.flatMap fun q => lins.map fun r => [p, q, r]) ++ (lins.flatMap fun p => lins.flatMap fun q => quads.map fun r => [p, q, r]) ++ (lins.flatMap fun p => quads.flatMap fun q => lins.map fun r => [p, q, r]) ++ (quads.flatMap fun p => lins.flatMap fun q => lins.map fun r => [p, q, r])
theorem fmod3 {x : Int} : 0 ≤ x.fmod 3 ∧ x.fmod 3 < 3 := by
  rw [Int.fmod_eq_emod_of_nonneg _ (by decide)]; omega
theorem lin_mem {xs : List Int} {k : Nat} : [3 - drawP xs k 7, 1] ∈ lins := by
  have h1 : 0 ≤ drawP xs k 7 := drawP_lo (by decide)
  have h2 : drawP xs k 7 < 7 := drawP_hi (by decide)
  generalize drawP xs k 7 = d at *
  unfold lins
  exact List.mem_map.mpr ⟨3 - d, dom7_mem (by omega) (by omega), rfl⟩
theorem qua_mem {xs : List Int} {k j : Nat} : [1 + (drawP xs k 7).fmod 3, drawP xs j 3 - 1, 1] ∈ quads := by
  have h1 : 0 ≤ drawP xs j 3 := drawP_lo (by decide)
  have h2 : drawP xs j 3 < 3 := drawP_hi (by decide)
  have h3 := fmod3 (x := drawP xs k 7)
  generalize drawP xs j 3 = d at *
  generalize (drawP xs k 7).fmod 3 = e at *
  unfold quads
  refine List.mem_flatMap.mpr ⟨1 + e, ?_, List.mem_map.mpr ⟨d - 1, ?_, rfl⟩⟩
  · simp only [List.mem_cons, List.not_mem_nil, or_false]; omega
  · simp only [List.mem_cons, List.not_mem_nil, or_false]; omega
theorem step_cases (xs : List Int) (st : Nat × List (List Int) × Int) : (∃ p, p ∈ lins ∧ st.2.2 < 4 ∧ (partsStep xs st).2 = (st.2.1 ++ [p], st.2.2 + 1)) ∨ (∃ p, p ∈ quads ∧ st.2.2 < 3 ∧ (partsStep xs st).2 = (st.2.1 ++ [p], st.2.2 + 2)) ∨ (3 ≤ st.2.2 ∧ (partsStep xs st).2 = st.2) := by
  have h1 : 0 ≤ drawP xs st.1 2 := drawP_lo (by decide)
  have h2 : drawP xs st.1 2 < 2 := drawP_hi (by decide)
  unfold partsStep
  by_cases c1 : drawP xs st.1 2 = 0 ∧ st.2.2 < 4
  · rw [if_pos c1]
    exact .inl ⟨_, lin_mem, c1.2, rfl⟩
  · rw [if_neg c1]
    by_cases c2 : drawP xs st.1 2 = 1 ∧ st.2.2 < 3
    · rw [if_pos c2]
      exact .inr (.inl ⟨_, qua_mem, c2.2, rfl⟩)
    · rw [if_neg c2]
      exact .inr (.inr ⟨by omega, rfl⟩)
theorem partsL_shape (xs : List Int) : partsL xs ∈ shapes := by
  have h1 : 0 ≤ drawP xs 0 3 := drawP_lo (by decide)
  have h2 : drawP xs 0 3 < 3 := drawP_hi (by decide)
  have ht : (1 + drawP xs 0 3).toNat = 1 ∨ (1 + drawP xs 0 3).toNat = 2 ∨ (1 + drawP xs 0 3).toNat = 3 := by omega
  unfold partsL partsP
  generalize (1 + drawP xs 0 3).toNat = t at ht
  have s1 : (partsAt xs 1).2.1 ∈ shapes ∧ ((∃ p, p ∈ lins ∧ (partsAt xs 1).2 = ([p], 1)) ∨ (∃ p, p ∈ quads ∧ (partsAt xs 1).2 = ([p], 2))) := by
    rcases step_cases xs (partsAt xs 0) with ⟨p, hp, _, e⟩ | ⟨p, hp, _, e⟩ | ⟨h, _⟩
    · have e' : (partsAt xs 1).2 = ([p], 1) := e
      refine ⟨?_, .inl ⟨p, hp, e'⟩⟩
      rw [e']
      exact List.mem_append_left _ (List.mem_append_left _ (List.mem_append_left _ (List.mem_append_left _ (List.mem_append_left _ (List.mem_append_left _ (List.mem_append_left _ (List.mem_append_left _ (List.mem_append_left _ (List.mem_map.mpr ⟨p, hp, rfl⟩)))))))))
    · have e' : (partsAt xs 1).2 = ([p], 2) := e
      refine ⟨?_, .inr ⟨p, hp, e'⟩⟩
      rw [e']
      exact List.mem_append_left _ (List.mem_append_left _ (List.mem_append_left _ (List.mem_append_left _ (List.mem_append_left _ (List.mem_append_left _ (List.mem_append_left _ (List.mem_append_left _ (List.mem_append_right _ (List.mem_map.mpr ⟨p, hp, rfl⟩)))))))))
    · exact absurd (show 3 ≤ (0 : Int) from h) (by decide)
  have s2 : (partsAt xs 2).2.1 ∈ shapes ∧ ((∃ p q, p ∈ lins ∧ q ∈ lins ∧ (partsAt xs 2).2 = ([p, q], 2)) ∨ (∃ p q, p ∈ lins ∧ q ∈ quads ∧ (partsAt xs 2).2 = ([p, q], 3)) ∨ (∃ p q, p ∈ quads ∧ q ∈ lins ∧ (partsAt xs 2).2 = ([p, q], 3)) ∨ (∃ p q, p ∈ quads ∧ q ∈ quads ∧ (partsAt xs 2).2 = ([p, q], 4))) := by
    have hst : (partsAt xs 2) = partsStep xs (partsAt xs 1) := rfl
    rcases s1.2 with ⟨p, hp, e1⟩ | ⟨p, hp, e1⟩
    · rcases step_cases xs (partsAt xs 1) with ⟨q, hq, _, e⟩ | ⟨q, hq, hlt, e⟩ | ⟨h, _⟩
      · rw [← hst, e1] at e
        have e' : (partsAt xs 2).2 = ([p, q], 2) := e
        refine ⟨?_, .inl ⟨p, q, hp, hq, e'⟩⟩
        rw [e']
        exact List.mem_append_left _ (List.mem_append_left _ (List.mem_append_left _ (List.mem_append_left _ (List.mem_append_left _ (List.mem_append_left _ (List.mem_append_left _ (List.mem_append_right _ (List.mem_flatMap.mpr ⟨p, hp, List.mem_map.mpr ⟨q, hq, rfl⟩⟩))))))))
      · rw [← hst, e1] at e
        have e' : (partsAt xs 2).2 = ([p, q], 3) := e
        refine ⟨?_, .inr (.inl ⟨p, q, hp, hq, e'⟩)⟩
        rw [e']
        exact List.mem_append_left _ (List.mem_append_left _ (List.mem_append_left _ (List.mem_append_left _ (List.mem_append_left _ (List.mem_append_left _ (List.mem_append_right _ (List.mem_flatMap.mpr ⟨p, hp, List.mem_map.mpr ⟨q, hq, rfl⟩⟩)))))))
      · rw [e1] at h; exact absurd (show 3 ≤ (1 : Int) from h) (by decide)
    · rcases step_cases xs (partsAt xs 1) with ⟨q, hq, _, e⟩ | ⟨q, hq, hlt, e⟩ | ⟨h, _⟩
      · rw [← hst, e1] at e
        have e' : (partsAt xs 2).2 = ([p, q], 3) := e
        refine ⟨?_, .inr (.inr (.inl ⟨p, q, hp, hq, e'⟩))⟩
        rw [e']
        exact List.mem_append_left _ (List.mem_append_left _ (List.mem_append_left _ (List.mem_append_left _ (List.mem_append_left _ (List.mem_append_right _ (List.mem_flatMap.mpr ⟨p, hp, List.mem_map.mpr ⟨q, hq, rfl⟩⟩))))))
      · rw [← hst, e1] at e
        have e' : (partsAt xs 2).2 = ([p, q], 4) := e
        refine ⟨?_, .inr (.inr (.inr ⟨p, q, hp, hq, e'⟩))⟩
        rw [e']
        exact List.mem_append_left _ (List.mem_append_left _ (List.mem_append_left _ (List.mem_append_left _ (List.mem_append_right _ (List.mem_flatMap.mpr ⟨p, hp, List.mem_map.mpr ⟨q, hq, rfl⟩⟩)))))
      · rw [e1] at h; exact absurd (show 3 ≤ (2 : Int) from h) (by decide)
  rcases ht with rfl | rfl | rfl
  · exact s1.1
  · exact s2.1
  · have hst : (partsAt xs 3) = partsStep xs (partsAt xs 2) := rfl
    rcases s2.2 with ⟨p, q, hp, hq, e1⟩ | ⟨p, q, hp, hq, e1⟩ | ⟨p, q, hp, hq, e1⟩ | ⟨p, q, hp, hq, e1⟩
    · rcases step_cases xs (partsAt xs 2) with ⟨r, hr, hl4, e⟩ | ⟨r, hr, hlt, e⟩ | ⟨h, _⟩
      · rw [← hst, e1] at e
        have e' : (partsAt xs 3).2 = ([p, q, r], 3) := e
        rw [e']
        exact List.mem_append_left _ (List.mem_append_left _ (List.mem_append_left _ (List.mem_append_right _ (List.mem_flatMap.mpr ⟨p, hp, List.mem_flatMap.mpr ⟨q, hq, List.mem_map.mpr ⟨r, hr, rfl⟩⟩⟩))))
      · rw [← hst, e1] at e
        have e' : (partsAt xs 3).2 = ([p, q, r], 4) := e
        rw [e']
        exact List.mem_append_left _ (List.mem_append_left _ (List.mem_append_right _ (List.mem_flatMap.mpr ⟨p, hp, List.mem_flatMap.mpr ⟨q, hq, List.mem_map.mpr ⟨r, hr, rfl⟩⟩⟩)))
      · rw [e1] at h; exact absurd (show 3 ≤ (2 : Int) from h) (by decide)
    · rcases step_cases xs (partsAt xs 2) with ⟨r, hr, hl4, e⟩ | ⟨r, hr, hlt, e⟩ | ⟨_, e⟩
      · rw [← hst, e1] at e
        have e' : (partsAt xs 3).2 = ([p, q, r], 4) := e
        rw [e']
        exact List.mem_append_left _ (List.mem_append_right _ (List.mem_flatMap.mpr ⟨p, hp, List.mem_flatMap.mpr ⟨q, hq, List.mem_map.mpr ⟨r, hr, rfl⟩⟩⟩))
      · rw [e1] at hlt; exact absurd (show (3 : Int) < 3 from hlt) (by decide)
      · rw [← hst] at e; rw [e]; exact s2.1
    · rcases step_cases xs (partsAt xs 2) with ⟨r, hr, hl4, e⟩ | ⟨r, hr, hlt, e⟩ | ⟨_, e⟩
      · rw [← hst, e1] at e
        have e' : (partsAt xs 3).2 = ([p, q, r], 4) := e
        rw [e']
        exact List.mem_append_right _ (List.mem_flatMap.mpr ⟨p, hp, List.mem_flatMap.mpr ⟨q, hq, List.mem_map.mpr ⟨r, hr, rfl⟩⟩⟩)
      · rw [e1] at hlt; exact absurd (show (3 : Int) < 3 from hlt) (by decide)
      · rw [← hst] at e; rw [e]; exact s2.1
    · rcases step_cases xs (partsAt xs 2) with ⟨r, hr, hl4, e⟩ | ⟨r, hr, hlt, e⟩ | ⟨_, e⟩
      · rw [e1] at hl4; exact absurd (show (4 : Int) < 4 from hl4) (by decide)
      · rw [e1] at hlt; exact absurd (show (4 : Int) < 3 from hlt) (by decide)
      · rw [← hst] at e; rw [e]; exact s2.1
end
section
set_option maxRecDepth 100000
set_option maxHeartbeats 8000000
noncomputable def I3 (a : Int) : Prop := -3 ≤ a ∧ a ≤ 3
structure Qd (c b : Int) : Prop where
  c1 : 1 ≤ c
  c3 : c ≤ 3
  b1 : -1 ≤ b
  b3 : b ≤ 1
theorem I3.bd {a : Int} (h : I3 a) : Bd 2 a := by
  unfold Bd
  have : (2 : Nat) ^ 2 = 4 := by decide
  have := h.1
  have := h.2
  omega
theorem Qd.bc {c b : Int} (h : Qd c b) : Bd 2 c := I3.bd ⟨by have := h.c1; omega, h.c3⟩
theorem Qd.bb {c b : Int} (h : Qd c b) : Bd 2 b := I3.bd ⟨by have := h.b1; omega, by have := h.b3; omega⟩
theorem Qd.disc {c b : Int} (h : Qd c b) : 0 < 4*c - b*b := by
  have h1 := h.c1
  have h2 := h.b1
  have h3 := h.b3
  have : b = -1 ∨ b = 0 ∨ b = 1 := by omega
  rcases this with rfl | rfl | rfl <;> omega
theorem Bd.add' {j k : Nat} {x y : Int} (hx : Bd j x) (hy : Bd k y) : Bd (max j k + 1) (x + y) := (hx.mono (Nat.le_max_left j k)).add (hy.mono (Nat.le_max_right j k))
inductive Shp : List (List Int) → Prop
  | l {a1} (h1 : I3 a1) : Shp [[a1, 1]]
  | q {c b} (h : Qd c b) : Shp [[c, b, 1]]
  | ll {a1 a2} (h1 : I3 a1) (h2 : I3 a2) : Shp [[a1, 1], [a2, 1]]
  | lq {a1 c b} (h1 : I3 a1) (h : Qd c b) : Shp [[a1, 1], [c, b, 1]]
  | ql {a1 c b} (h1 : I3 a1) (h : Qd c b) : Shp [[c, b, 1], [a1, 1]]
  | qq {c b t u} (h : Qd c b) (k : Qd t u) : Shp [[c, b, 1], [t, u, 1]]
  | lll {a1 a2 a3} (h1 : I3 a1) (h2 : I3 a2) (h3 : I3 a3) : Shp [[a1, 1], [a2, 1], [a3, 1]]
  | llq {a1 a2 c b} (h1 : I3 a1) (h2 : I3 a2) (h : Qd c b) : Shp [[a1, 1], [a2, 1], [c, b, 1]]
  | lql {a1 a2 c b} (h1 : I3 a1) (h2 : I3 a2) (h : Qd c b) : Shp [[a1, 1], [c, b, 1], [a2, 1]]
  | qll {a1 a2 c b} (h1 : I3 a1) (h2 : I3 a2) (h : Qd c b) : Shp [[c, b, 1], [a1, 1], [a2, 1]]
theorem lins_I3 {p : List Int} (h : p ∈ lins) : ∃ a, I3 a ∧ p = [a, 1] := by
  obtain ⟨a, ha, rfl⟩ := List.mem_map.mp h
  refine ⟨a, ?_, rfl⟩
  unfold dom7 at ha
  simp only [List.mem_cons, List.not_mem_nil, or_false] at ha
  unfold I3; omega
theorem quads_Qd {p : List Int} (h : p ∈ quads) : ∃ c b, Qd c b ∧ p = [c, b, 1] := by
  obtain ⟨c, hc, h⟩ := List.mem_flatMap.mp h
  obtain ⟨b, hb, rfl⟩ := List.mem_map.mp h
  simp only [List.mem_cons, List.not_mem_nil, or_false] at hc hb
  exact ⟨c, b, ⟨by omega, by omega, by omega, by omega⟩, rfl⟩
theorem shapes_Shp {ps : List (List Int)} (h : ps ∈ shapes) : Shp ps := by
  unfold shapes at h
  simp only [List.mem_append, List.mem_map, List.mem_flatMap] at h
  rcases h with ((((((((⟨p, hp, rfl⟩ | ⟨p, hp, rfl⟩) | ⟨p, hp, q, hq, rfl⟩) | ⟨p, hp, q, hq, rfl⟩) | ⟨p, hp, q, hq, rfl⟩) | ⟨p, hp, q, hq, rfl⟩) | ⟨p, hp, q, hq, r, hr, rfl⟩) | ⟨p, hp, q, hq, r, hr, rfl⟩) | ⟨p, hp, q, hq, r, hr, rfl⟩) | ⟨p, hp, q, hq, r, hr, rfl⟩
  · obtain ⟨a, ha, rfl⟩ := lins_I3 hp; exact .l ha
  · obtain ⟨c, b, h, rfl⟩ := quads_Qd hp; exact .q h
  · obtain ⟨a, ha, rfl⟩ := lins_I3 hp; obtain ⟨a2, h2, rfl⟩ := lins_I3 hq; exact .ll ha h2
  · obtain ⟨a, ha, rfl⟩ := lins_I3 hp; obtain ⟨c, b, h, rfl⟩ := quads_Qd hq; exact .lq ha h
  · obtain ⟨c, b, h, rfl⟩ := quads_Qd hp; obtain ⟨a, ha, rfl⟩ := lins_I3 hq; exact .ql ha h
  · obtain ⟨c, b, h, rfl⟩ := quads_Qd hp; obtain ⟨t, u, k, rfl⟩ := quads_Qd hq; exact .qq h k
  · obtain ⟨a, ha, rfl⟩ := lins_I3 hp; obtain ⟨a2, h2, rfl⟩ := lins_I3 hq; obtain ⟨a3, h3, rfl⟩ := lins_I3 hr; exact .lll ha h2 h3
  · obtain ⟨a, ha, rfl⟩ := lins_I3 hp; obtain ⟨a2, h2, rfl⟩ := lins_I3 hq; obtain ⟨c, b, h, rfl⟩ := quads_Qd hr; exact .llq ha h2 h
  · obtain ⟨a, ha, rfl⟩ := lins_I3 hp; obtain ⟨c, b, h, rfl⟩ := quads_Qd hq; obtain ⟨a2, h2, rfl⟩ := lins_I3 hr; exact .lql ha h2 h
  · obtain ⟨c, b, h, rfl⟩ := quads_Qd hp; obtain ⟨a, ha, rfl⟩ := lins_I3 hq; obtain ⟨a2, h2, rfl⟩ := lins_I3 hr; exact .qll ha h2 h
theorem partsL_Shp (xs : List Int) : Shp (partsL xs) := shapes_Shp (partsL_shape xs)
theorem lbd1 {k : Nat} {x : Int} (h : Bd k x) : LBd k [x] := fun y hy => by rw [List.mem_singleton.mp hy]; exact h
theorem lbdc {k : Nat} {x : Int} {xs : List Int} (h : Bd k x) (r : LBd k xs) : LBd k (x :: xs) := fun y hy => by
  rcases List.mem_cons.mp hy with rfl | hy
  · exact h
  · exact r y hy
theorem lbd0 {k : Nat} : LBd k [1] → LBd k [1] := id
theorem one20 : LBd 20 [1] := lbd1 (Bd.one (by decide))
theorem llqBd {a1 a2 c b : Int} (h1 : I3 a1) (h2 : I3 a2) (h : Qd c b) : LBd 20 [c*(a1*a2), c*(a1+a2)+b*(a1*a2), c+a1*a2+b*(a1+a2), b+(a1+a2), 1] :=
  lbdc ((h.bc.mul (h1.bd.mul h2.bd)).mono (by decide)) (lbdc (((h.bc.mul (h1.bd.add' h2.bd)).add' (h.bb.mul (h1.bd.mul h2.bd))).mono (by decide)) (lbdc (((h.bc.add' (h1.bd.mul h2.bd)).add' (h.bb.mul (h1.bd.add' h2.bd))).mono (by decide)) (lbdc ((h.bb.add' (h1.bd.add' h2.bd)).mono (by decide)) one20)))
/-- f's numbers are small -/
theorem poly_bd {ps : List (List Int)} (s : Shp ps) : LBd 20 (polyL ps) := by
  cases s with
  | l h1 => rw [poly_l]; exact lbdc (h1.bd.mono (by decide)) one20
  | q h => rw [poly_q]; exact lbdc (h.bc.mono (by decide)) (lbdc (h.bb.mono (by decide)) one20)
  | ll h1 h2 => rw [poly_ll]; exact lbdc ((h1.bd.mul h2.bd).mono (by decide)) (lbdc ((h1.bd.add' h2.bd).mono (by decide)) one20)
  | lq h1 h => rw [poly_lq]; exact lbdc ((h1.bd.mul h.bc).mono (by decide)) (lbdc ((h.bc.add' (h1.bd.mul h.bb)).mono (by decide)) (lbdc ((h.bb.add' h1.bd).mono (by decide)) one20))
  | ql h1 h => rw [poly_ql]; exact lbdc ((h1.bd.mul h.bc).mono (by decide)) (lbdc ((h.bc.add' (h1.bd.mul h.bb)).mono (by decide)) (lbdc ((h.bb.add' h1.bd).mono (by decide)) one20))
  | qq h k => rw [poly_qq]; exact lbdc ((h.bc.mul k.bc).mono (by decide)) (lbdc (((h.bc.mul k.bb).add' (h.bb.mul k.bc)).mono (by decide)) (lbdc (((h.bc.add' k.bc).add' (h.bb.mul k.bb)).mono (by decide)) (lbdc ((h.bb.add' k.bb).mono (by decide)) one20)))
  | lll h1 h2 h3 => rw [poly_lll]; exact lbdc ((h1.bd.mul (h2.bd.mul h3.bd)).mono (by decide)) (lbdc (((h2.bd.mul h3.bd).add' (h1.bd.mul (h2.bd.add' h3.bd))).mono (by decide)) (lbdc (((h2.bd.add' h3.bd).add' h1.bd).mono (by decide)) one20))
  | llq h1 h2 h => rw [poly_llq]; exact llqBd h1 h2 h
  | lql h1 h2 h => rw [poly_lql]; exact llqBd h1 h2 h
  | qll h1 h2 h => rw [poly_qll]; exact llqBd h1 h2 h
/-- the forms that f takes -/
theorem poly_form {ps : List (List Int)} (s : Shp ps) : (∃ f0, polyL ps = [f0, 1]) ∨ (∃ f0 f1, polyL ps = [f0, f1, 1]) ∨ (∃ f0 f1 f2, polyL ps = [f0, f1, f2, 1]) ∨ (∃ f0 f1 f2 f3, polyL ps = [f0, f1, f2, f3, 1]) := by
  cases s with
  | l h1 => exact .inl ⟨_, poly_l _⟩
  | q h => exact .inr (.inl ⟨_, _, poly_q _ _⟩)
  | ll h1 h2 => exact .inr (.inl ⟨_, _, poly_ll _ _⟩)
  | lq h1 h => exact .inr (.inr (.inl ⟨_, _, _, poly_lq _ _ _⟩))
  | ql h1 h => exact .inr (.inr (.inl ⟨_, _, _, poly_ql _ _ _⟩))
  | qq h k => exact .inr (.inr (.inr ⟨_, _, _, _, poly_qq _ _ _ _⟩))
  | lll h1 h2 h3 => exact .inr (.inr (.inl ⟨_, _, _, poly_lll _ _ _⟩))
  | llq h1 h2 h => exact .inr (.inr (.inr ⟨_, _, _, _, poly_llq _ _ _ _⟩))
  | lql h1 h2 h => exact .inr (.inr (.inr ⟨_, _, _, _, poly_lql _ _ _ _⟩))
  | qll h1 h2 h => exact .inr (.inr (.inr ⟨_, _, _, _, poly_qll _ _ _ _⟩))
/-- the first parts are a shape again -/
theorem Shp.take {ps : List (List Int)} (s : Shp ps) (i : Nat) : ps.take i = [] ∨ Shp (ps.take i) := by
  match i with
  | 0 => exact .inl rfl
  | 1 =>
    refine .inr ?_
    cases s with
    | l h1 => exact .l h1
    | q h => exact .q h
    | ll h1 h2 => exact .l h1
    | lq h1 h => exact .l h1
    | ql h1 h => exact .q h
    | qq h k => exact .q h
    | lll h1 h2 h3 => exact .l h1
    | llq h1 h2 h => exact .l h1
    | lql h1 h2 h => exact .l h1
    | qll h1 h2 h => exact .q h
  | 2 =>
    refine .inr ?_
    cases s with
    | l h1 => exact .l h1
    | q h => exact .q h
    | ll h1 h2 => exact .ll h1 h2
    | lq h1 h => exact .lq h1 h
    | ql h1 h => exact .ql h1 h
    | qq h k => exact .qq h k
    | lll h1 h2 h3 => exact .ll h1 h2
    | llq h1 h2 h => exact .ll h1 h2
    | lql h1 h2 h => exact .lq h1 h
    | qll h1 h2 h => exact .ql h1 h
  | i + 3 =>
    refine .inr ?_
    have h3 : ps.length ≤ 3 := by cases s <;> simp
    rw [List.take_of_length_le (by omega)]; exact s
end
section
set_option maxRecDepth 100000
set_option maxHeartbeats 8000000
theorem pad_getD (g : List Int) (m k : Nat) : (g ++ List.replicate m 0).getD k 0 = g.getD k 0 := by
  by_cases h : k < g.length
  · rw [List.getD_eq_getElem?_getD, List.getElem?_append_left h, ← List.getD_eq_getElem?_getD]
  · have e1 : (g ++ List.replicate m 0).getD k 0 = 0 := by
      rw [List.getD_eq_getElem?_getD, List.getElem?_append_right (by omega), List.getElem?_replicate]
      split <;> rfl
    have e2 : g.getD k 0 = 0 := by
      rw [List.getD_eq_getElem?_getD, List.getElem?_eq_none (by omega)]; rfl
    rw [e1, e2]
theorem entry_pad (f g : List Int) (m n i j : Nat) : entryP f (g ++ List.replicate m 0) n i j = entryP f g n i j := by
  unfold entryP
  congr 1
  refine List.map_congr_left fun k _ => ?_
  rw [pad_getD, pad_getD]
theorem rows_eq (f g : List Int) : lawRowsP f g = (List.range (f.length - 1)).map fun i => (List.range (f.length - 1)).map fun j => entryP f g (f.length - 1) i j := by
  unfold lawRowsP
  refine List.map_congr_left fun i _ => List.map_congr_left fun j _ => ?_
  exact entry_pad f g _ _ i j
theorem rows_length (f g : List Int) : (lawRowsP f g).length = f.length - 1 := by
  rw [rows_eq, List.length_map, List.length_range]
theorem rows_square (f g : List Int) : Square (lawRowsP f g) := by
  intro x hx
  rw [rows_length]
  rw [rows_eq] at hx
  obtain ⟨i, _, rfl⟩ := List.mem_map.mp hx
  rw [List.length_map, List.length_range]
theorem sum_bd {k : Nat} : ∀ {l : List Int}, LBd k l → Bd (k + l.length) l.sum
  | [], _ => Bd.zero
  | x :: l, h => by
    rw [List.sum_cons, List.length_cons]
    have h1 := h x List.mem_cons_self
    have h2 := sum_bd (l := l) fun y hy => h y (List.mem_cons_of_mem _ hy)
    have e : k + (l.length + 1) = (k + l.length) + 1 := by omega
    rw [e]
    exact (h1.mono (by omega)).add h2
theorem entry_bd {kf kg : Nat} {f g : List Int} (hf : LBd kf f) (hg : LBd kg g) {n i j : Nat} (hn : n ≤ 4) : Bd (kf + kg + 6) (entryP f g n i j) := by
  unfold entryP
  refine (sum_bd (k := kf + kg + 1) ?_).mono ?_
  · intro x hx
    obtain ⟨k, _, rfl⟩ := List.mem_map.mp hx
    exact ((bd_getD hf _).mul (bd_getD hg _)).sub ((bd_getD hf _).mul (bd_getD hg _))
  · rw [List.length_map, List.length_range]; omega
theorem rows_bd {kf kg : Nat} {f g : List Int} (hf : LBd kf f) (hg : LBd kg g) (h5 : f.length ≤ 5) : MBd (kf + kg + 6) (lawRowsP f g) := by
  intro x hx y hy
  rw [rows_eq] at hx
  obtain ⟨i, _, rfl⟩ := List.mem_map.mp hx
  obtain ⟨j, _, rfl⟩ := List.mem_map.mp hy
  exact entry_bd hf hg (by omega)
theorem subM_bd {b : Nat} {M : List (List Int)} (h : MBd b M) (k : Nat) : MBd b (subM M k) := by
  intro x hx y hy
  unfold subM at hx
  obtain ⟨z, hz, rfl⟩ := List.mem_map.mp hx
  exact h z (List.mem_of_mem_take hz) y (List.mem_of_mem_take hy)
theorem subM_len_le (M : List (List Int)) (k : Nat) : (subM M k).length ≤ M.length := by
  unfold subM
  rw [List.length_map, List.length_take]; omega
theorem detP_bd {b : Nat} {M : List (List Int)} (h : MBd b M) : Bd (grow b M.length + 1) (detP M) := by
  unfold detP
  cases e : detState M M.length with
  | none => exact Bd.zero
  | some st =>
    obtain ⟨M', sign, ahead⟩ := st
    obtain ⟨_, _, _, ha, hs⟩ := detState_ok h M.length M' sign ahead (Nat.le_refl _) e
    show Bd _ (sign * ahead)
    rcases hs with rfl | rfl
    · rw [Int.one_mul]; exact ha
    · rw [Int.neg_mul, Int.one_mul]; exact ha.neg
theorem rows_dets {kf kg : Nat} {f g : List Int} (hf : LBd kf f) (hg : LBd kg g) (h5 : f.length ≤ 5) (hk : kf + kg ≤ 45) :
    (∀ i, DetOk (subM (lawRowsP f g) (i + 1))) ∧ ∀ x ∈ minorsP (lawRowsP f g), Bd 1000 x := by
  have hb : MBd 51 (lawRowsP f g) := (rows_bd hf hg h5).mono (by omega)
  have hl : ∀ i, (subM (lawRowsP f g) (i + 1)).length ≤ 4 := fun i => Nat.le_trans (subM_len_le _ _) (by rw [rows_length]; omega)
  have hgr : ∀ i, grow 51 (subM (lawRowsP f g) (i + 1)).length ≤ 831 := fun i => Nat.le_trans (grow_mono (hl i)) (by decide)
  refine ⟨fun i => detOk_of (subM_bd hb _) (Nat.lt_of_le_of_lt (hgr i) (by decide)), fun x hx => ?_⟩
  unfold minorsP at hx
  obtain ⟨i, _, rfl⟩ := List.mem_map.mp hx
  exact (detP_bd (subM_bd hb _)).mono (by have := hgr i; omega)
theorem getD_past {g : List Int} {k : Nat} (h : g.length ≤ k) : g.getD k 0 = 0 := by
  rw [List.getD_eq_getElem?_getD, List.getElem?_eq_none h]; rfl
section
variable (f0 f1 f2 f3 : Int) (g : List Int)
theorem en_1 (x : Int) : ([x] : List Int).sum = x := by simp
theorem en_l {a b x : Int} (h : x = 0) : ([1 * a - b * x] : List Int).sum = a := by subst h; simp
theorem en_2 (x y : Int) : ([x, y] : List Int).sum = x + y := by simp
theorem en_2l (x : Int) {a b z : Int} (h : z = 0) : ([x, 1 * a - b * z] : List Int).sum = x + a := by subst h; simp
theorem l1_eq {α : Type} {a a' : α} (h1 : a = a') : [a] = [a'] := by subst h1; rfl
theorem l2_eq {α : Type} {a b a' b' : α} (h1 : a = a') (h2 : b = b') : [a, b] = [a', b'] := by subst h1 h2; rfl
theorem l3_eq {α : Type} {a b c a' b' c' : α} (h1 : a = a') (h2 : b = b') (h3 : c = c') : [a, b, c] = [a', b', c'] := by subst h1 h2 h3; rfl
theorem l4_eq {α : Type} {a b c d a' b' c' d' : α} (h1 : a = a') (h2 : b = b') (h3 : c = c') (h4 : d = d') : [a, b, c, d] = [a', b', c', d'] := by subst h1 h2 h3 h4; rfl
theorem mins_4 (hg : g.length ≤ 4) : minorsP (lawRowsP [f0, f1, f2, f3, 1] g) = [m1 f0 f1 (g.getD 0 0) (g.getD 1 0), m2 f0 f1 f2 f3 (g.getD 0 0) (g.getD 1 0) (g.getD 2 0) (g.getD 3 0), m3 f0 f1 f2 f3 (g.getD 0 0) (g.getD 1 0) (g.getD 2 0) (g.getD 3 0), D4 f0 f1 f2 f3 (g.getD 0 0) (g.getD 1 0) (g.getD 2 0) (g.getD 3 0)] := by
  have h := getD_past hg
  have e : lawRowsP [f0, f1, f2, f3, 1] g = [[f1*g.getD 0 0-f0*g.getD 1 0, f2*g.getD 0 0-f0*g.getD 2 0, f3*g.getD 0 0-f0*g.getD 3 0, g.getD 0 0],
      [f2*g.getD 0 0-f0*g.getD 2 0, f2*g.getD 1 0-f1*g.getD 2 0+(f3*g.getD 0 0-f0*g.getD 3 0), f3*g.getD 1 0-f1*g.getD 3 0+g.getD 0 0, g.getD 1 0],
      [f3*g.getD 0 0-f0*g.getD 3 0, f3*g.getD 1 0-f1*g.getD 3 0+g.getD 0 0, f3*g.getD 2 0-f2*g.getD 3 0+g.getD 1 0, g.getD 2 0],
      [g.getD 0 0, g.getD 1 0, g.getD 2 0, g.getD 3 0]] := by
    exact (rows_eq _ _).trans (l4_eq (l4_eq (en_1 _) (en_1 _) (en_1 _) (en_l h)) (l4_eq (en_1 _) (en_2 _ _) (en_2l _ h) (en_l h)) (l4_eq (en_1 _) (en_2l _ h) (en_2l _ h) (en_l h)) (l4_eq (en_l h) (en_l h) (en_l h) (en_l h)))
  rw [e]
  exact l4_eq (detP_1 _) (detP_2 _ _ _ _) (detP_3 _ _ _ _ _ _ _ _ _) (detP_4 _ _ _ _ _ _ _ _ _ _ _ _ _ _ _ _)
theorem mins_3 (hg : g.length ≤ 3) : minorsP (lawRowsP [f0, f1, f2, 1] g) = [m1 f0 f1 (g.getD 0 0) (g.getD 1 0), tm2 f0 f1 f2 (g.getD 0 0) (g.getD 1 0) (g.getD 2 0), D3 f0 f1 f2 (g.getD 0 0) (g.getD 1 0) (g.getD 2 0)] := by
  have h := getD_past hg
  have e : lawRowsP [f0, f1, f2, 1] g = [[f1*g.getD 0 0-f0*g.getD 1 0, f2*g.getD 0 0-f0*g.getD 2 0, g.getD 0 0],
      [f2*g.getD 0 0-f0*g.getD 2 0, f2*g.getD 1 0-f1*g.getD 2 0+g.getD 0 0, g.getD 1 0],
      [g.getD 0 0, g.getD 1 0, g.getD 2 0]] := by
    exact (rows_eq _ _).trans (l3_eq (l3_eq (en_1 _) (en_1 _) (en_l h)) (l3_eq (en_1 _) (en_2l _ h) (en_l h)) (l3_eq (en_l h) (en_l h) (en_l h)))
  rw [e]
  exact l3_eq (detP_1 _) (detP_2 _ _ _ _) (detP_3 _ _ _ _ _ _ _ _ _)
theorem mins_2 (hg : g.length ≤ 2) : minorsP (lawRowsP [f0, f1, 1] g) = [m1 f0 f1 (g.getD 0 0) (g.getD 1 0), u2 f0 f1 (g.getD 0 0) (g.getD 1 0)] := by
  have h := getD_past hg
  have e : lawRowsP [f0, f1, 1] g = [[f1*g.getD 0 0-f0*g.getD 1 0, g.getD 0 0], [g.getD 0 0, g.getD 1 0]] := by
    exact (rows_eq _ _).trans (l2_eq (l2_eq (en_1 _) (en_l h)) (l2_eq (en_l h) (en_l h)))
  rw [e]
  exact l2_eq (detP_1 _) (detP_2 _ _ _ _)
theorem mins_1 (hg : g.length ≤ 1) : minorsP (lawRowsP [f0, 1] g) = [g.getD 0 0] := by
  have h := getD_past hg
  have e : lawRowsP [f0, 1] g = [[g.getD 0 0]] := by
    exact (rows_eq _ _).trans (l1_eq (l1_eq (en_l h)))
  rw [e]
  exact l1_eq (detP_1 _)
end
end
section
set_option maxRecDepth 100000
set_option maxHeartbeats 8000000
theorem zat_gv {g : List Int} (h : g.length ≤ 4) (x : Int) : zatP g x = gv (g.getD 0 0) (g.getD 1 0) (g.getD 2 0) (g.getD 3 0) x := by
  match g, h with
  | [], _ => show 0 = gv 0 0 0 0 x; unfold gv; grind
  | [a], _ => show 0 * x + a = gv a 0 0 0 x; unfold gv; grind
  | [a, b], _ => show (0 * x + b) * x + a = gv a b 0 0 x; unfold gv; grind
  | [a, b, c], _ => show ((0 * x + c) * x + b) * x + a = gv a b c 0 x; unfold gv; grind
  | [a, b, c, d], _ => show (((0 * x + d) * x + c) * x + b) * x + a = gv a b c d x; unfold gv; grind
  | _ :: _ :: _ :: _ :: _ :: _, h => exact absurd h (by simp)
theorem idxTerm_odd {roots g : List Int} {r : Int} (h : roots.count r % 2 = 1) : idxTerm roots g r = sgn (idxVal roots g r) := by
  unfold idxTerm sgn
  rcases Int.lt_trichotomy (idxVal roots g r) 0 with k | k | k
  · rw [if_pos ⟨h, by omega⟩, if_neg (by omega), if_neg (by omega), if_pos k]
  · rw [if_neg (fun q => q.2 k), if_neg (by omega), if_neg (by omega)]
  · rw [if_pos ⟨h, by omega⟩, if_pos k, if_pos k]
theorem idxTerm_even {roots g : List Int} {r : Int} (h : ¬ roots.count r % 2 = 1) : idxTerm roots g r = 0 := by
  unfold idxTerm
  rw [if_neg (fun q => h q.1)]
theorem index_0 (g : List Int) : indexP [] g = 0 := rfl
theorem index_1 (r : Int) (g : List Int) : indexP [r] g = sgn (zatP g r) := by
  have e : firstMet (fun i => [r].getD i 0) [r].length = [r] := by simp [firstMet, step_dedup, List.range, List.range.loop]
  unfold indexP
  rw [e, List.map_singleton, List.sum_cons, List.sum_nil, Int.add_zero, idxTerm_odd (by simp)]
  simp [idxVal]
theorem index_2e (r : Int) (g : List Int) : indexP [r, r] g = 0 := by
  have e : firstMet (fun i => [r, r].getD i 0) [r, r].length = [r] := by simp [firstMet, step_dedup, List.range, List.range.loop]
  unfold indexP
  rw [e, List.map_singleton, List.sum_cons, List.sum_nil, Int.add_zero, idxTerm_even (by simp)]
theorem index_2 {r s : Int} (h : r ≠ s) (g : List Int) : indexP [r, s] g = sgn (zatP g r * (r - s)) + sgn (zatP g s * (s - r)) := by
  have h' := Ne.symm h
  have e : firstMet (fun i => [r, s].getD i 0) [r, s].length = [r, s] := by simp [firstMet, step_dedup, List.range, List.range.loop, h, h']
  unfold indexP
  rw [e]
  simp only [List.map_cons, List.map_nil, List.sum_cons, List.sum_nil, Int.add_zero]
  rw [idxTerm_odd (by simp [h, h']), idxTerm_odd (by simp [h, h'])]
  simp [idxVal, h, h']
theorem index_3e (r : Int) (g : List Int) : indexP [r, r, r] g = sgn (zatP g r) := by
  have e : firstMet (fun i => [r, r, r].getD i 0) [r, r, r].length = [r] := by simp [firstMet, step_dedup, List.range, List.range.loop]
  unfold indexP
  rw [e, List.map_singleton, List.sum_cons, List.sum_nil, Int.add_zero, idxTerm_odd (by simp)]
  simp [idxVal]
theorem index_3a {r s : Int} (h : r ≠ s) (g : List Int) : indexP [r, r, s] g = sgn (zatP g s * (s - r) * (s - r)) := by
  have h' := Ne.symm h
  have e : firstMet (fun i => [r, r, s].getD i 0) [r, r, s].length = [r, s] := by simp [firstMet, step_dedup, List.range, List.range.loop, h, h']
  unfold indexP
  rw [e]
  simp only [List.map_cons, List.map_nil, List.sum_cons, List.sum_nil, Int.add_zero]
  rw [idxTerm_even (by simp [h, h']), idxTerm_odd (by simp [h, h'])]
  simp [idxVal, h, h']
theorem index_3b {r s : Int} (h : r ≠ s) (g : List Int) : indexP [r, s, r] g = sgn (zatP g s * (s - r) * (s - r)) := by
  have h' := Ne.symm h
  have e : firstMet (fun i => [r, s, r].getD i 0) [r, s, r].length = [r, s] := by simp [firstMet, step_dedup, List.range, List.range.loop, h, h']
  unfold indexP
  rw [e]
  simp only [List.map_cons, List.map_nil, List.sum_cons, List.sum_nil, Int.add_zero]
  rw [idxTerm_even (by simp [h, h']), idxTerm_odd (by simp [h, h'])]
  simp [idxVal, h, h']
theorem index_3c {r s : Int} (h : r ≠ s) (g : List Int) : indexP [s, r, r] g = sgn (zatP g s * (s - r) * (s - r)) := by
  have h' := Ne.symm h
  have e : firstMet (fun i => [s, r, r].getD i 0) [s, r, r].length = [s, r] := by simp [firstMet, step_dedup, List.range, List.range.loop, h, h']
  unfold indexP
  rw [e]
  simp only [List.map_cons, List.map_nil, List.sum_cons, List.sum_nil, Int.add_zero]
  rw [idxTerm_odd (by simp [h, h']), idxTerm_even (by simp [h, h'])]
  simp [idxVal, h, h']
theorem index_3 {r s t : Int} (h : r ≠ s) (k : r ≠ t) (l : s ≠ t) (g : List Int) : indexP [r, s, t] g = sgn (zatP g r * (r - s) * (r - t)) + sgn (zatP g s * (s - r) * (s - t)) + sgn (zatP g t * (t - r) * (t - s)) := by
  have h' := Ne.symm h
  have k' := Ne.symm k
  have l' := Ne.symm l
  have e : firstMet (fun i => [r, s, t].getD i 0) [r, s, t].length = [r, s, t] := by simp [firstMet, step_dedup, List.range, List.range.loop, h, h', k, k', l, l']
  unfold indexP
  rw [e]
  simp only [List.map_cons, List.map_nil, List.sum_cons, List.sum_nil, Int.add_zero]
  rw [idxTerm_odd (by simp [h, h', k, k', l, l']), idxTerm_odd (by simp [h, h', k, k', l, l']), idxTerm_odd (by simp [h, h', k, k', l, l'])]
  simp [idxVal, h, h', k, k', l, l', Int.add_assoc]
theorem chG_len (row l : List Int) (k : Int) : ((chG row l k).length : Int) = (l.length : Int) + ng (row.getD k.toNat 0 * row.getD (k + 1).toNat 0) := by
  unfold chG ng
  split
  · rw [List.length_append, List.length_singleton]; omega
  · omega
theorem chs_1 (d1 : Int) : (((rangeKs 0 1).foldl (chG ([1] ++ [d1])) []).length : Int) = ng d1 := by
  show ((chG [1, d1] [] 0).length : Int) = _
  rw [chG_len]
  show (0 : Int) + ng (1 * d1) = _
  rw [Int.one_mul]; omega
theorem chs_2 (d1 d2 : Int) : (((rangeKs 0 2).foldl (chG ([1] ++ [d1, d2])) []).length : Int) = ch2 d1 d2 := by
  show ((chG [1, d1, d2] (chG [1, d1, d2] [] 0) 1).length : Int) = _
  rw [chG_len, chG_len]
  show (0 : Int) + ng (1 * d1) + ng (d1 * d2) = _
  rw [Int.one_mul]; unfold ch2; omega
theorem chs_3 (d1 d2 d3 : Int) : (((rangeKs 0 3).foldl (chG ([1] ++ [d1, d2, d3])) []).length : Int) = ch3 d1 d2 d3 := by
  show ((chG [1, d1, d2, d3] (chG [1, d1, d2, d3] (chG [1, d1, d2, d3] [] 0) 1) 2).length : Int) = _
  rw [chG_len, chG_len, chG_len]
  show (0 : Int) + ng (1 * d1) + ng (d1 * d2) + ng (d2 * d3) = _
  rw [Int.one_mul]; unfold ch3; omega
theorem chs_4 (d1 d2 d3 d4 : Int) : (((rangeKs 0 4).foldl (chG ([1] ++ [d1, d2, d3, d4])) []).length : Int) = ch4 d1 d2 d3 d4 := by
  show ((chG [1, d1, d2, d3, d4] (chG [1, d1, d2, d3, d4] (chG [1, d1, d2, d3, d4] (chG [1, d1, d2, d3, d4] [] 0) 1) 2) 3).length : Int) = _
  rw [chG_len, chG_len, chG_len, chG_len]
  show (0 : Int) + ng (1 * d1) + ng (d1 * d2) + ng (d2 * d3) + ng (d3 * d4) = _
  rw [Int.one_mul]; unfold ch4; omega
end
section
set_option maxRecDepth 100000
set_option maxHeartbeats 8000000
noncomputable def IdxAt (ps : List (List Int)) (g : List Int) : Prop :=
  ¬ (0 : Int) ∈ minorsP (lawRowsP (polyL ps) g) → 2 * (((rangeKs 0 ((polyL ps).length - 1)).foldl (chG ([1] ++ minorsP (lawRowsP (polyL ps) g))) []).length : Int) = ((polyL ps).length : Int) - 1 - indexP (rootsOf ps) g
theorem zs_neg (a : Int) : 0 - a = -a := by omega
theorem four {d1 d2 d3 d4 : Int} (h : ¬ (0 : Int) ∈ [d1, d2, d3, d4]) : S4 d1 d2 d3 d4 := by
  simp only [List.mem_cons, List.not_mem_nil, or_false, not_or] at h
  exact ⟨Ne.symm h.1, Ne.symm h.2.1, Ne.symm h.2.2.1, Ne.symm h.2.2.2⟩
theorem three {d1 d2 d3 : Int} (h : ¬ (0 : Int) ∈ [d1, d2, d3]) : S3 d1 d2 d3 := by
  simp only [List.mem_cons, List.not_mem_nil, or_false, not_or] at h
  exact ⟨Ne.symm h.1, Ne.symm h.2.1, Ne.symm h.2.2⟩
theorem two {d1 d2 : Int} (h : ¬ (0 : Int) ∈ [d1, d2]) : S2 d1 d2 := by
  simp only [List.mem_cons, List.not_mem_nil, or_false, not_or] at h
  exact ⟨Ne.symm h.1, Ne.symm h.2⟩
theorem idx_two (a1 a2 : Int) {g : List Int} {G : Int → Int} (hG : ∀ x, zatP g x = G x) : indexP [0 - a1, 0 - a2] g = sgn (G (-a1) * (a2 - a1)) + sgn (G (-a2) * (a1 - a2)) := by
  rw [zs_neg, zs_neg]
  by_cases h : a1 = a2
  · subst h
    rw [index_2e, Int.sub_self, Int.mul_zero]; rfl
  · rw [index_2 (by omega), hG, hG, show -a1 - -a2 = a2 - a1 by omega, show -a2 - -a1 = a1 - a2 by omega]
theorem llq_idx {a1 a2 c b : Int} {g : List Int} (hg : g.length ≤ 4) (hd : 0 < 4*c - b*b)
    (h : ¬ (0 : Int) ∈ minorsP (lawRowsP [c*(a1*a2), c*(a1+a2)+b*(a1*a2), c+a1*a2+b*(a1+a2), b+(a1+a2), 1] g)) :
    2 * (((rangeKs 0 4).foldl (chG ([1] ++ minorsP (lawRowsP [c*(a1*a2), c*(a1+a2)+b*(a1*a2), c+a1*a2+b*(a1+a2), b+(a1+a2), 1] g))) []).length : Int) = 4 - indexP [0 - a1, 0 - a2] g := by
  rw [mins_4 _ _ _ _ _ hg] at h ⊢
  rw [chs_4, idx_two a1 a2 (zat_gv hg)]
  exact idx_ll hd (four h)
theorem lq_idx {a1 c b : Int} {g : List Int} (hg : g.length ≤ 3) (hd : 0 < 4*c - b*b)
    (h : ¬ (0 : Int) ∈ minorsP (lawRowsP [a1*c, c+a1*b, b+a1, 1] g)) :
    2 * (((rangeKs 0 3).foldl (chG ([1] ++ minorsP (lawRowsP [a1*c, c+a1*b, b+a1, 1] g))) []).length : Int) = 3 - indexP [0 - a1] g := by
  rw [mins_3 _ _ _ _ hg] at h ⊢
  rw [chs_3, index_1, zs_neg, zat_gv (Nat.le_trans hg (by decide)), getD_past hg]
  exact (idx_lq hd (three h)).1
theorem lll_idx {a1 a2 a3 : Int} {g : List Int} (hg : g.length ≤ 3)
    (h : ¬ (0 : Int) ∈ minorsP (lawRowsP [a1*(a2*a3), a2*a3+a1*(a2+a3), a2+a3+a1, 1] g)) :
    2 * (((rangeKs 0 3).foldl (chG ([1] ++ minorsP (lawRowsP [a1*(a2*a3), a2*a3+a1*(a2+a3), a2+a3+a1, 1] g))) []).length : Int) = 3 - indexP [0 - a1, 0 - a2, 0 - a3] g := by
  rw [mins_3 _ _ _ _ hg] at h ⊢
  have z : ∀ x, zatP g x = gv (g.getD 0 0) (g.getD 1 0) (g.getD 2 0) 0 x := fun x => by rw [zat_gv (Nat.le_trans hg (by decide)), getD_past hg]
  rw [chs_3, zs_neg, zs_neg, zs_neg]
  by_cases ht : a1 = a2 ∧ a2 = a3
  · obtain ⟨rfl, rfl⟩ := ht
    rw [index_3e, z]
    exact idx_tri (three h)
  · have key := idx_lll (three h) ht
    by_cases h12 : a1 = a2
    · subst h12
      rw [index_3a (by omega), z, show -a3 - -a1 = a1 - a3 by omega, Int.mul_assoc]
      rw [Int.sub_self, Int.zero_mul, Int.mul_zero, sgn_zero, Int.add_zero, Int.zero_add] at key
      exact key
    · by_cases h13 : a1 = a3
      · subst h13
        rw [index_3b (by omega), z, show -a2 - -a1 = a1 - a2 by omega, Int.mul_assoc]
        rw [Int.sub_self, Int.mul_zero, Int.zero_mul, Int.mul_zero, sgn_zero, Int.zero_add, Int.add_zero] at key
        exact key
      · by_cases h23 : a2 = a3
        · subst h23
          rw [index_3c (by omega), z, show -a1 - -a2 = a2 - a1 by omega, Int.mul_assoc]
          rw [Int.sub_self, Int.mul_zero, Int.mul_zero, sgn_zero, Int.add_zero, Int.add_zero] at key
          exact key
        · rw [index_3 (by omega) (by omega) (by omega), z, z, z, show -a1 - -a2 = a2 - a1 by omega, show -a1 - -a3 = a3 - a1 by omega, show -a2 - -a1 = a1 - a2 by omega, show -a2 - -a3 = a3 - a2 by omega, show -a3 - -a1 = a1 - a3 by omega, show -a3 - -a2 = a2 - a3 by omega, Int.mul_assoc, Int.mul_assoc, Int.mul_assoc]
          exact key
/-- the law of the index -/
theorem idx_shape {ps : List (List Int)} (s : Shp ps) {g : List Int} (hgl : g.length + 1 ≤ (polyL ps).length) : IdxAt ps g := by
  unfold IdxAt
  cases s with
  | @l a1 h1 =>
    rw [poly_l] at hgl ⊢
    have hg : g.length ≤ 1 := by simpa using hgl
    intro h
    show 2 * (((rangeKs 0 1).foldl _ []).length : Int) = 1 - indexP [0 - a1] g
    rw [mins_1 _ _ hg] at h ⊢
    rw [chs_1, index_1, zat_gv (Nat.le_trans hg (by decide)), getD_past hg, getD_past (k := 2) (Nat.le_trans hg (by decide)), getD_past (k := 3) (Nat.le_trans hg (by decide))]
    have e : gv (g.getD 0 0) 0 0 0 (0 - a1) = g.getD 0 0 := by unfold gv; simp
    rw [e]
    exact idx_1 (fun e => h (by rw [e]; simp))
  | @q c b h1 =>
    rw [poly_q] at hgl ⊢
    have hg : g.length ≤ 2 := by simpa using hgl
    intro h
    show 2 * (((rangeKs 0 2).foldl _ []).length : Int) = 2 - indexP [] g
    rw [mins_2 _ _ _ hg] at h ⊢
    rw [chs_2, index_0]
    have := idx_q h1.disc (two h)
    unfold c2 at this
    omega
  | @ll a1 a2 h1 h2 =>
    rw [poly_ll] at hgl ⊢
    have hg : g.length ≤ 2 := by simpa using hgl
    intro h
    show 2 * (((rangeKs 0 2).foldl _ []).length : Int) = 2 - indexP [0 - a1, 0 - a2] g
    rw [mins_2 _ _ _ hg] at h ⊢
    have z : ∀ x, zatP g x = gv (g.getD 0 0) (g.getD 1 0) 0 0 x := fun x => by rw [zat_gv (Nat.le_trans hg (by decide)), getD_past hg, getD_past (k := 3) (Nat.le_trans hg (by decide))]
    rw [chs_2, idx_two a1 a2 z]
    exact idx_l2 (two h)
  | @lq a1 c b h1 hq =>
    rw [poly_lq] at hgl ⊢
    have hg : g.length ≤ 3 := by simpa using hgl
    exact fun h => lq_idx hg hq.disc h
  | @ql a1 c b h1 hq =>
    rw [poly_ql] at hgl ⊢
    have hg : g.length ≤ 3 := by simpa using hgl
    exact fun h => lq_idx hg hq.disc h
  | @qq c b t u hq k =>
    rw [poly_qq] at hgl ⊢
    have hg : g.length ≤ 4 := by simpa using hgl
    intro h
    show 2 * (((rangeKs 0 4).foldl _ []).length : Int) = 4 - indexP [] g
    rw [mins_4 _ _ _ _ _ hg] at h ⊢
    rw [chs_4, index_0]
    have := idx_qq hq.disc k.disc (four h)
    unfold c4 at this
    omega
  | @lll a1 a2 a3 h1 h2 h3 =>
    rw [poly_lll] at hgl ⊢
    have hg : g.length ≤ 3 := by simpa using hgl
    exact fun h => lll_idx hg h
  | @llq a1 a2 c b h1 h2 hq =>
    rw [poly_llq] at hgl ⊢
    have hg : g.length ≤ 4 := by simpa using hgl
    exact fun h => llq_idx hg hq.disc h
  | @lql a1 a2 c b h1 h2 hq =>
    rw [poly_lql] at hgl ⊢
    have hg : g.length ≤ 4 := by simpa using hgl
    exact fun h => llq_idx hg hq.disc h
  | @qll a1 a2 c b h1 h2 hq =>
    rw [poly_qll] at hgl ⊢
    have hg : g.length ≤ 4 := by simpa using hgl
    exact fun h => llq_idx hg hq.disc h
end
section
set_option maxRecDepth 100000
set_option maxHeartbeats 8000000
noncomputable def DefAt (ps : List (List Int)) : Prop :=
  (∀ x ∈ minorsP (lawRowsP (polyL ps) (zderiveP (polyL ps))), 0 < x) ↔ (firstMet (fun i => (roots2 ps).getD i 0) (roots2 ps).length).length = (polyL ps).length - 1
theorem ch4_pos {d1 d2 d3 d4 : Int} (h : ∀ x ∈ [d1, d2, d3, d4], 0 < x) : S4 d1 d2 d3 d4 ∧ ch4 d1 d2 d3 d4 = 0 := by
  have h1 := h d1 (by simp)
  have h2 := h d2 (by simp)
  have h3 := h d3 (by simp)
  have h4 := h d4 (by simp)
  refine ⟨⟨by omega, by omega, by omega, by omega⟩, ?_⟩
  unfold ch4
  rw [ng_pos h1, ng_pos (pp h1 h2), ng_pos (pp h2 h3), ng_pos (pp h3 h4)]; rfl
theorem ch3_pos {d1 d2 d3 : Int} (h : ∀ x ∈ [d1, d2, d3], 0 < x) : S3 d1 d2 d3 ∧ ch3 d1 d2 d3 = 0 := by
  have h1 := h d1 (by simp)
  have h2 := h d2 (by simp)
  have h3 := h d3 (by simp)
  refine ⟨⟨by omega, by omega, by omega⟩, ?_⟩
  unfold ch3
  rw [ng_pos h1, ng_pos (pp h1 h2), ng_pos (pp h2 h3)]; rfl
theorem fm_le (l : List Int) : (firstMet (fun i => l.getD i 0) l.length).length ≤ l.length := firstMet_length_le _ _
theorem def_q4 {b c u t : Int} (hd : 0 < 4*c - b*b) (g : List Int) (hg : g.length ≤ 4) : ¬ ∀ x ∈ minorsP (lawRowsP [c*t, c*u+b*t, c+t+b*u, b+u, 1] g), 0 < x := by
  intro h
  rw [mins_4 _ _ _ _ _ hg] at h
  obtain ⟨s, hc⟩ := ch4_pos h
  exact (chq hd s).1 hc
theorem def_lq {a1 b c : Int} (hd : 0 < 4*c - b*b) (g : List Int) (hg : g.length ≤ 3) : ¬ ∀ x ∈ minorsP (lawRowsP [a1*c, c+a1*b, b+a1, 1] g), 0 < x := by
  intro h
  rw [mins_3 _ _ _ _ hg] at h
  obtain ⟨s, hc⟩ := ch3_pos h
  exact (idx_lq hd s).2 hc
theorem lll_tab : (dom7.all fun a1 => dom7.all fun a2 => dom7.all fun a3 => (decide (0 < m1 (a1*(a2*a3)) (a2*a3+a1*(a2+a3)) (a2*a3+a1*(a2+a3)) ((a2+a3+a1)*2)) && decide (0 < tm2 (a1*(a2*a3)) (a2*a3+a1*(a2+a3)) (a2+a3+a1) (a2*a3+a1*(a2+a3)) ((a2+a3+a1)*2) 3) && decide (0 < D3 (a1*(a2*a3)) (a2*a3+a1*(a2+a3)) (a2+a3+a1) (a2*a3+a1*(a2+a3)) ((a2+a3+a1)*2) 3)) == (a1 != a2 && a1 != a3 && a2 != a3)) = true := by decide +kernel
theorem ll_tab : (dom7.all fun a1 => dom7.all fun a2 => (decide (0 < m1 (a1*a2) (a1+a2) (a1+a2) 2) && decide (0 < u2 (a1*a2) (a1+a2) (a1+a2) 2)) == (a1 != a2)) = true := by decide +kernel
theorem beq_tf {p q : Bool} (h : (p == q) = true) : p = true ↔ q = true := by cases p <;> cases q <;> simp_all
theorem I3.dom {a : Int} (h : I3 a) : a ∈ dom7 := dom7_mem h.1 h.2
theorem fm_2 (r s : Int) : (firstMet (fun i => [r, s].getD i 0) [r, s].length).length = 2 ↔ r ≠ s := by
  by_cases h : r = s
  · subst h; simp [firstMet, step_dedup, List.range, List.range.loop]
  · have h' := Ne.symm h
    simp [firstMet, step_dedup, List.range, List.range.loop, h, h']
theorem fm_3 (r s t : Int) : (firstMet (fun i => [r, s, t].getD i 0) [r, s, t].length).length = 3 ↔ (r ≠ s ∧ r ≠ t ∧ s ≠ t) := by
  by_cases h : r = s
  · subst h
    by_cases k : r = t
    · subst k; simp [firstMet, step_dedup, List.range, List.range.loop]
    · have k' := Ne.symm k
      simp [firstMet, step_dedup, List.range, List.range.loop, k, k']
  · have h' := Ne.symm h
    by_cases k : r = t
    · subst k
      simp [firstMet, step_dedup, List.range, List.range.loop, h, h']
    · have k' := Ne.symm k
      by_cases l : s = t
      · subst l
        simp [firstMet, step_dedup, List.range, List.range.loop, h, h']
      · have l' := Ne.symm l
        simp [firstMet, step_dedup, List.range, List.range.loop, h, h', k, k', l, l']
theorem def_shape {ps : List (List Int)} (s : Shp ps) : DefAt ps := by
  unfold DefAt
  cases s with
  | @l a1 h1 =>
    rw [poly_l]
    show (∀ x ∈ minorsP (lawRowsP [a1, 1] [1 * 1]), 0 < x) ↔ (firstMet (fun i => [a1].getD i 0) 1).length = 1
    rw [mins_1 _ _ (by simp)]
    simp [firstMet, step_dedup, List.range, List.range.loop]
  | @q c b hq =>
    rw [poly_q]
    show (∀ x ∈ minorsP (lawRowsP [c, b, 1] [b * 1, 1 * 2]), 0 < x) ↔ (firstMet (fun i => ([] : List Int).getD i 0) 0).length = 2
    rw [mins_2 _ _ _ (by simp)]
    refine ⟨fun h => ?_, fun h => absurd h (by simp [firstMet])⟩
    have h2 := h (u2 c b ([b * 1, 1 * 2].getD 0 0) ([b * 1, 1 * 2].getD 1 0)) (by simp)
    have hd := hq.disc
    have e : u2 c b ([b * 1, 1 * 2].getD 0 0) ([b * 1, 1 * 2].getD 1 0) = b*b - 4*c := by
      show u2 c b (b * 1) (1 * 2) = _
      unfold u2; clear h h2 hd; grind
    rw [e] at h2
    omega
  | @ll a1 a2 h1 h2 =>
    rw [poly_ll]
    show (∀ x ∈ minorsP (lawRowsP [a1*a2, a1+a2, 1] [(a1+a2) * 1, 1 * 2]), 0 < x) ↔ (firstMet (fun i => [a1, a2].getD i 0) [a1, a2].length).length = 2
    rw [mins_2 _ _ _ (by simp), fm_2]
    show (∀ x ∈ [m1 (a1*a2) (a1+a2) ((a1+a2) * 1) 2, u2 (a1*a2) (a1+a2) ((a1+a2) * 1) 2], 0 < x) ↔ a1 ≠ a2
    rw [Int.mul_one]
    have t := ll_tab
    rw [List.all_eq_true] at t
    have t1 := t a1 h1.dom
    rw [List.all_eq_true] at t1
    have t2 := t1 a2 h2.dom
    simpa using beq_tf t2
  | @lq a1 c b h1 hq =>
    rw [poly_lq]
    refine ⟨fun h => absurd h (def_lq hq.disc _ (by show (3 : Nat) ≤ 3; decide)), fun h => ?_⟩
    have := fm_le (roots2 [[a1, 1], [c, b, 1]])
    rw [h] at this
    exact absurd (show (3 : Nat) ≤ 1 from this) (by decide)
  | @ql a1 c b h1 hq =>
    rw [poly_ql]
    refine ⟨fun h => absurd h (def_lq hq.disc _ (by show (3 : Nat) ≤ 3; decide)), fun h => ?_⟩
    have := fm_le (roots2 [[c, b, 1], [a1, 1]])
    rw [h] at this
    exact absurd (show (3 : Nat) ≤ 1 from this) (by decide)
  | @qq c b t u hq k =>
    rw [poly_qq]
    refine ⟨fun h => absurd h (def_q4 hq.disc _ (by show (4 : Nat) ≤ 4; decide)), fun h => ?_⟩
    have := fm_le (roots2 [[c, b, 1], [t, u, 1]])
    rw [h] at this
    exact absurd (show (4 : Nat) ≤ 0 from this) (by decide)
  | @lll a1 a2 a3 h1 h2 h3 =>
    rw [poly_lll]
    show (∀ x ∈ minorsP (lawRowsP [a1*(a2*a3), a2*a3+a1*(a2+a3), a2+a3+a1, 1] [(a2*a3+a1*(a2+a3)) * 1, (a2+a3+a1) * 2, 1 * 3]), 0 < x) ↔ (firstMet (fun i => [a1, a2, a3].getD i 0) [a1, a2, a3].length).length = 3
    rw [mins_3 _ _ _ _ (by simp), fm_3]
    show (∀ x ∈ [m1 (a1*(a2*a3)) (a2*a3+a1*(a2+a3)) ((a2*a3+a1*(a2+a3)) * 1) ((a2+a3+a1)*2), tm2 (a1*(a2*a3)) (a2*a3+a1*(a2+a3)) (a2+a3+a1) ((a2*a3+a1*(a2+a3)) * 1) ((a2+a3+a1)*2) 3, D3 (a1*(a2*a3)) (a2*a3+a1*(a2+a3)) (a2+a3+a1) ((a2*a3+a1*(a2+a3)) * 1) ((a2+a3+a1)*2) 3], 0 < x) ↔ (a1 ≠ a2 ∧ a1 ≠ a3 ∧ a2 ≠ a3)
    rw [Int.mul_one]
    have t := lll_tab
    rw [List.all_eq_true] at t
    have t1 := t a1 h1.dom
    rw [List.all_eq_true] at t1
    have t2 := t1 a2 h2.dom
    rw [List.all_eq_true] at t2
    have t3 := t2 a3 h3.dom
    simpa [and_assoc] using beq_tf t3
  | @llq a1 a2 c b h1 h2 hq =>
    rw [poly_llq]
    refine ⟨fun h => absurd h (def_q4 hq.disc _ (by show (4 : Nat) ≤ 4; decide)), fun h => ?_⟩
    have := fm_le (roots2 [[a1, 1], [a2, 1], [c, b, 1]])
    rw [h] at this
    exact absurd (show (4 : Nat) ≤ 2 from this) (by decide)
  | @lql a1 a2 c b h1 h2 hq =>
    rw [poly_lql]
    refine ⟨fun h => absurd h (def_q4 hq.disc _ (by show (4 : Nat) ≤ 4; decide)), fun h => ?_⟩
    have := fm_le (roots2 [[a1, 1], [c, b, 1], [a2, 1]])
    rw [h] at this
    exact absurd (show (4 : Nat) ≤ 2 from this) (by decide)
  | @qll a1 a2 c b h1 h2 hq =>
    rw [poly_qll]
    refine ⟨fun h => absurd h (def_q4 hq.disc _ (by show (4 : Nat) ≤ 4; decide)), fun h => ?_⟩
    have := fm_le (roots2 [[c, b, 1], [a1, 1], [a2, 1]])
    rw [h] at this
    exact absurd (show (4 : Nat) ≤ 2 from this) (by decide)
end
section
set_option maxRecDepth 100000
set_option maxHeartbeats 8000000
set_option exponentiation.threshold 2000
theorem ztrimP_last_ne : ∀ (n : Nat) (xs : List Int), xs.length = n → ztrimP xs ≠ [] → (ztrimP xs).getLastD 0 ≠ 0
  | 0, xs, h, h0 => by
    have : xs = [] := List.eq_nil_of_length_eq_zero h
    subst this; exact absurd rfl h0
  | n + 1, xs, h, h0 => by
    by_cases hx : xs.getLastD 0 = 0
    · rw [ztrimP_drop hx (by omega)] at h0 ⊢
      exact ztrimP_last_ne n _ (by rw [List.length_dropLast]; omega) h0
    · rw [ztrimP_last hx]; exact hx
theorem gP_facts (xs : List Int) (h2 : 2 ≤ (polyF xs).length) : 1 ≤ (gP xs).length ∧ (gP xs).length + 1 ≤ (polyF xs).length ∧ LBd 3 (gP xs) ∧ (gP xs).getLastD 0 ≠ 0 := by
  unfold gP
  by_cases h : gRaw xs = []
  · rw [if_pos h]
    exact ⟨by simp, by simp; omega, lbd1 (Bd.one (by decide)), by decide⟩
  · rw [if_neg h]
    have hl : 0 < (gRaw xs).length := List.length_pos_iff.mpr h
    refine ⟨hl, ?_, ?_, ztrimP_last_ne _ _ rfl h⟩
    · unfold gRaw
      have := ztrimP_length_le ((List.range ((((polyF xs).length - 1 : Nat) : Int) - 0).toNat).map fun i => drawP xs ((partsP xs).1 + i) 5 - 2)
      rw [List.length_map, List.length_range] at this
      omega
    · intro x hx
      have hm := ztrimP_mem hx
      obtain ⟨i, _, rfl⟩ := List.mem_map.mp hm
      have h1 : 0 ≤ drawP xs ((partsP xs).1 + i) 5 := drawP_lo (by decide)
      have h2 : drawP xs ((partsP xs).1 + i) 5 < 5 := drawP_hi (by decide)
      unfold Bd
      have : (2 : Nat) ^ 3 = 8 := by decide
      omega
theorem fac2 : (1 - (((((2 : Nat) : Int) - 1) * (((2 : Nat) : Int) - 1 - 1)).fdiv 2).fmod 2 * 2) = 1 := by decide
theorem fac3 : (1 - (((((3 : Nat) : Int) - 1) * (((3 : Nat) : Int) - 1 - 1)).fdiv 2).fmod 2 * 2) = -1 := by decide
theorem fac4 : (1 - (((((4 : Nat) : Int) - 1) * (((4 : Nat) : Int) - 1 - 1)).fdiv 2).fmod 2 * 2) = -1 := by decide
theorem fac5 : (1 - (((((5 : Nat) : Int) - 1) * (((5 : Nat) : Int) - 1 - 1)).fdiv 2).fmod 2 * 2) = 1 := by decide
theorem res_all {f g : List Int} (hform : (∃ f0, f = [f0, 1]) ∨ (∃ f0 f1, f = [f0, f1, 1]) ∨ (∃ f0 f1 f2, f = [f0, f1, f2, 1]) ∨ (∃ f0 f1 f2 f3, f = [f0, f1, f2, f3, 1])) (hf : LBd 20 f) (hg1 : 1 ≤ g.length) (hgl : g.length + 1 ≤ f.length) (hg : LBd 3 g) (hg0 : g.getLastD 0 ≠ 0) :
    ResOk f g ∧ Bd 1000 (resP f g) ∧ (minorsP (lawRowsP f g)).getLastD 0 = (1 - ((((f.length : Int) - 1) * ((f.length : Int) - 1 - 1)).fdiv 2).fmod 2 * 2) * resP f g := by
  have h5 : f.length ≤ 5 := by
    rcases hform with ⟨f0, rfl⟩ | ⟨f0, f1, rfl⟩ | ⟨f0, f1, f2, rfl⟩ | ⟨f0, f1, f2, f3, rfl⟩ <;> simp
  have hb := (rows_dets hf hg h5 (by decide)).2
  rcases hform with ⟨f0, rfl⟩ | ⟨f0, f1, rfl⟩ | ⟨f0, f1, f2, rfl⟩ | ⟨f0, f1, f2, f3, rfl⟩
  · have hg4 : g.length ≤ 1 := by simpa using hgl
    have r := res_1 hf hg1 hg4 hg hg0
    rw [mins_1 _ _ hg4] at hb ⊢
    refine ⟨r.1, ?_, ?_⟩
    · rw [r.2]; exact hb _ (by simp)
    · rw [r.2]
      show g.getD 0 0 = (1 - (((((2 : Nat) : Int) - 1) * (((2 : Nat) : Int) - 1 - 1)).fdiv 2).fmod 2 * 2) * g.getD 0 0
      rw [fac2, Int.one_mul]
  · have hg4 : g.length ≤ 2 := by simpa using hgl
    have r := res_2 hf hg1 hg4 hg hg0
    rw [mins_2 _ _ _ hg4] at hb ⊢
    refine ⟨r.1, ?_, ?_⟩
    · rw [r.2, u2_D2]; exact (hb _ (by simp)).neg
    · rw [r.2, u2_D2]
      show u2 f0 f1 (g.getD 0 0) (g.getD 1 0) = (1 - (((((3 : Nat) : Int) - 1) * (((3 : Nat) : Int) - 1 - 1)).fdiv 2).fmod 2 * 2) * -u2 f0 f1 (g.getD 0 0) (g.getD 1 0)
      rw [fac3]; omega
  · have hg4 : g.length ≤ 3 := by simpa using hgl
    have r := res_3 hf hg1 hg4 hg hg0
    rw [mins_3 _ _ _ _ hg4] at hb ⊢
    refine ⟨r.1, ?_, ?_⟩
    · rw [r.2]; exact (hb _ (by simp)).neg
    · rw [r.2]
      show D3 f0 f1 f2 (g.getD 0 0) (g.getD 1 0) (g.getD 2 0) = (1 - (((((4 : Nat) : Int) - 1) * (((4 : Nat) : Int) - 1 - 1)).fdiv 2).fmod 2 * 2) * -D3 f0 f1 f2 (g.getD 0 0) (g.getD 1 0) (g.getD 2 0)
      rw [fac4]; omega
  · have hg4 : g.length ≤ 4 := by simpa using hgl
    have r := res_4 hf hg1 hg4 hg hg0
    rw [mins_4 _ _ _ _ _ hg4] at hb ⊢
    refine ⟨r.1, ?_, ?_⟩
    · rw [r.2]; exact hb _ (by simp)
    · rw [r.2]
      show D4 f0 f1 f2 f3 (g.getD 0 0) (g.getD 1 0) (g.getD 2 0) (g.getD 3 0) = (1 - (((((5 : Nat) : Int) - 1) * (((5 : Nat) : Int) - 1 - 1)).fdiv 2).fmod 2 * 2) * D4 f0 f1 f2 f3 (g.getD 0 0) (g.getD 1 0) (g.getD 2 0) (g.getD 3 0)
      rw [fac5, Int.one_mul]
theorem zderive_facts {f : List Int} (hform : (∃ f0, f = [f0, 1]) ∨ (∃ f0 f1, f = [f0, f1, 1]) ∨ (∃ f0 f1 f2, f = [f0, f1, f2, 1]) ∨ (∃ f0 f1 f2 f3, f = [f0, f1, f2, f3, 1])) (hf : LBd 20 f) : LBd 24 (zderiveP f) ∧ (zderiveP f).length + 1 = f.length := by
  have hm : ∀ {x y : Int}, Bd 20 x → Bd 3 y → Bd 24 (x * y) := fun hx hy => (hx.mul hy).mono (by decide)
  have b : ∀ k : Int, 0 ≤ k → k ≤ 4 → Bd 3 k := fun k h1 h2 => by
    unfold Bd
    have : (2 : Nat) ^ 3 = 8 := by decide
    omega
  rcases hform with ⟨f0, rfl⟩ | ⟨f0, f1, rfl⟩ | ⟨f0, f1, f2, rfl⟩ | ⟨f0, f1, f2, f3, rfl⟩
  · exact ⟨lbd1 (hm (hf 1 (by simp)) (b 1 (by decide) (by decide))), rfl⟩
  · exact ⟨lbdc (hm (hf f1 (by simp)) (b 1 (by decide) (by decide))) (lbd1 (hm (hf 1 (by simp)) (b 2 (by decide) (by decide)))), rfl⟩
  · exact ⟨lbdc (hm (hf f1 (by simp)) (b 1 (by decide) (by decide))) (lbdc (hm (hf f2 (by simp)) (b 2 (by decide) (by decide))) (lbd1 (hm (hf 1 (by simp)) (b 3 (by decide) (by decide))))), rfl⟩
  · exact ⟨lbdc (hm (hf f1 (by simp)) (b 1 (by decide) (by decide))) (lbdc (hm (hf f2 (by simp)) (b 2 (by decide) (by decide))) (lbdc (hm (hf f3 (by simp)) (b 3 (by decide) (by decide))) (lbd1 (hm (hf 1 (by simp)) (b 4 (by decide) (by decide)))))), rfl⟩
theorem zat_bd {g : List Int} (hg : LBd 3 g) (h4 : g.length ≤ 4) {r : Int} (h1 : -3 ≤ r) (h2 : r ≤ 3) : Bd 1000 (zatP g r) := by
  have hr : Bd 2 r := I3.bd ⟨h1, h2⟩
  rw [zat_gv h4]
  unfold gv
  have b := fun k => bd_getD hg k
  exact (((b 0).add' ((b 1).mul hr)).add' ((b 2).mul (hr.mul hr)) |>.add' ((b 3).mul ((hr.mul hr).mul hr))).mono (by decide)
theorem roots_facts {ps : List (List Int)} (s : Shp ps) : ((rootsOf ps).length ≤ 3 ∧ ∀ r ∈ rootsOf ps, -3 ≤ r ∧ r ≤ 3) ∧ ((roots2 ps).length ≤ 3 ∧ ∀ r ∈ roots2 ps, -3 ≤ r ∧ r ≤ 3) := by
  have n0 : ∀ r ∈ ([] : List Int), -3 ≤ r ∧ r ≤ 3 := fun _ h => nomatch h
  have n1 : ∀ {a : Int}, I3 a → ∀ r ∈ [0 - a], -3 ≤ r ∧ r ≤ 3 := fun h r hr => by
    rw [List.mem_singleton.mp hr]; have := h.1; have := h.2; omega
  have p1 : ∀ {a : Int}, I3 a → ∀ r ∈ [a], -3 ≤ r ∧ r ≤ 3 := fun h r hr => by
    rw [List.mem_singleton.mp hr]; exact h
  have n2 : ∀ {a b : Int}, I3 a → I3 b → ∀ r ∈ [0 - a, 0 - b], -3 ≤ r ∧ r ≤ 3 := fun h k r hr => by
    rcases List.mem_cons.mp hr with rfl | hr
    · have := h.1; have := h.2; omega
    · exact n1 k r hr
  have p2 : ∀ {a b : Int}, I3 a → I3 b → ∀ r ∈ [a, b], -3 ≤ r ∧ r ≤ 3 := fun h k r hr => by
    rcases List.mem_cons.mp hr with rfl | hr
    · exact h
    · exact p1 k r hr
  cases s with
  | l h1 => exact ⟨⟨Nat.le_of_ble_eq_true rfl, n1 h1⟩, ⟨Nat.le_of_ble_eq_true rfl, p1 h1⟩⟩
  | q h => exact ⟨⟨Nat.le_of_ble_eq_true rfl, n0⟩, ⟨Nat.le_of_ble_eq_true rfl, n0⟩⟩
  | ll h1 h2 => exact ⟨⟨Nat.le_of_ble_eq_true rfl, n2 h1 h2⟩, ⟨Nat.le_of_ble_eq_true rfl, p2 h1 h2⟩⟩
  | lq h1 h => exact ⟨⟨Nat.le_of_ble_eq_true rfl, n1 h1⟩, ⟨Nat.le_of_ble_eq_true rfl, p1 h1⟩⟩
  | ql h1 h => exact ⟨⟨Nat.le_of_ble_eq_true rfl, n1 h1⟩, ⟨Nat.le_of_ble_eq_true rfl, p1 h1⟩⟩
  | qq h k => exact ⟨⟨Nat.le_of_ble_eq_true rfl, n0⟩, ⟨Nat.le_of_ble_eq_true rfl, n0⟩⟩
  | @lll a1 a2 a3 h1 h2 h3 =>
    refine ⟨⟨Nat.le_of_ble_eq_true rfl, fun r hr => ?_⟩, ⟨Nat.le_of_ble_eq_true rfl, fun r hr => ?_⟩⟩
    · rcases List.mem_cons.mp (show r ∈ [0 - a1, 0 - a2, 0 - a3] from hr) with rfl | hr
      · have := h1.1; have := h1.2; omega
      · exact n2 h2 h3 r hr
    · rcases List.mem_cons.mp (show r ∈ [a1, a2, a3] from hr) with rfl | hr
      · exact h1
      · exact p2 h2 h3 r hr
  | llq h1 h2 h => exact ⟨⟨Nat.le_of_ble_eq_true rfl, n2 h1 h2⟩, ⟨Nat.le_of_ble_eq_true rfl, p2 h1 h2⟩⟩
  | lql h1 h2 h => exact ⟨⟨Nat.le_of_ble_eq_true rfl, n2 h1 h2⟩, ⟨Nat.le_of_ble_eq_true rfl, p2 h1 h2⟩⟩
  | qll h1 h2 h => exact ⟨⟨Nat.le_of_ble_eq_true rfl, n2 h1 h2⟩, ⟨Nat.le_of_ble_eq_true rfl, p2 h1 h2⟩⟩
theorem prow_facts {ps : List (List Int)} (s : Shp ps) : ps.length ≤ 3 ∧ ∀ x ∈ ps, (2 ≤ x.length ∧ x.length ≤ 3) ∧ LBd 2 x := by
  have L : ∀ {a : Int}, I3 a → (2 ≤ [a, 1].length ∧ [a, 1].length ≤ 3) ∧ LBd 2 [a, 1] := fun h => ⟨by simp, lbdc h.bd (lbd1 (Bd.one (by decide)))⟩
  have Q : ∀ {c b : Int}, Qd c b → (2 ≤ [c, b, 1].length ∧ [c, b, 1].length ≤ 3) ∧ LBd 2 [c, b, 1] := fun h => ⟨by simp, lbdc h.bc (lbdc h.bb (lbd1 (Bd.one (by decide))))⟩
  cases s with
  | l h1 => exact ⟨by simp, by simpa using L h1⟩
  | q h => exact ⟨by simp, by simpa using Q h⟩
  | ll h1 h2 => exact ⟨by simp, List.forall_mem_cons.mpr ⟨L h1, by simpa using L h2⟩⟩
  | lq h1 h => exact ⟨by simp, List.forall_mem_cons.mpr ⟨L h1, by simpa using Q h⟩⟩
  | ql h1 h => exact ⟨by simp, List.forall_mem_cons.mpr ⟨Q h, by simpa using L h1⟩⟩
  | qq h k => exact ⟨by simp, List.forall_mem_cons.mpr ⟨Q h, by simpa using Q k⟩⟩
  | lll h1 h2 h3 => exact ⟨by simp, List.forall_mem_cons.mpr ⟨L h1, List.forall_mem_cons.mpr ⟨L h2, by simpa using L h3⟩⟩⟩
  | llq h1 h2 h => exact ⟨by simp, List.forall_mem_cons.mpr ⟨L h1, List.forall_mem_cons.mpr ⟨L h2, by simpa using Q h⟩⟩⟩
  | lql h1 h2 h => exact ⟨by simp, List.forall_mem_cons.mpr ⟨L h1, List.forall_mem_cons.mpr ⟨Q h, by simpa using L h2⟩⟩⟩
  | qll h1 h2 h => exact ⟨by simp, List.forall_mem_cons.mpr ⟨Q h, List.forall_mem_cons.mpr ⟨L h1, by simpa using L h2⟩⟩⟩
/-- what the walk of the law asks of the pure mirror -/
structure LawOk (xs : List Int) : Prop where
  plen : (partsL xs).length ≤ 3
  prow : ∀ x ∈ partsL xs, 2 ≤ x.length ∧ x.length ≤ 3
  psm : ∀ x ∈ partsL xs, ∀ y ∈ x, Sm y
  fsm : ∀ i, ∀ x ∈ ((partsL xs).take i).foldl zmulP [1], Sm x
  kle : (partsP xs).1 ≤ 900
  fpos : 2 ≤ (polyF xs).length
  gsm : ∀ x ∈ gP xs, Sm x
  glen : (gP xs).length ≤ (polyF xs).length
  sqg : Square (lawRowsP (polyF xs) (gP xs))
  okg : ∀ i, DetOk (subM (lawRowsP (polyF xs) (gP xs)) (i + 1))
  rlen : (lawRowsP (polyF xs) (gP xs)).length = (polyF xs).length - 1
  tsm : ∀ x ∈ minorsP (lawRowsP (polyF xs) (gP xs)), Bd 1000 x
  reso : ResOk (polyF xs) (gP xs)
  resm : Bd 1000 (resP (polyF xs) (gP xs))
  tlast : (minorsP (lawRowsP (polyF xs) (gP xs))).getLastD 0 = (1 - ((((((polyF xs).length : Int) - 1) * (((polyF xs).length : Int) - 1 - 1))).fdiv 2).fmod 2 * 2) * resP (polyF xs) (gP xs)
  idx : ¬ (0 : Int) ∈ minorsP (lawRowsP (polyF xs) (gP xs)) → 2 * (((rangeKs 0 ((polyF xs).length - 1)).foldl (chG ([1] ++ minorsP (lawRowsP (polyF xs) (gP xs)))) []).length : Int) = ((polyF xs).length : Int) - 1 - indexP (rootsOf (partsL xs)) (gP xs)
  rt3 : (rootsOf (partsL xs)).length ≤ 3
  rtd : ∀ r ∈ rootsOf (partsL xs), -3 ≤ r ∧ r ≤ 3
  zat : ∀ r, -3 ≤ r → r ≤ 3 → Bd 1000 (zatP (gP xs) r)
  dlen : (zderiveP (polyF xs)).length ≤ (polyF xs).length
  dsm : ∀ x ∈ zderiveP (polyF xs), Sm x
  sqd : Square (lawRowsP (polyF xs) (zderiveP (polyF xs)))
  okd : ∀ i, DetOk (subM (lawRowsP (polyF xs) (zderiveP (polyF xs))) (i + 1))
  rlend : (lawRowsP (polyF xs) (zderiveP (polyF xs))).length = (polyF xs).length - 1
  r23 : (roots2 (partsL xs)).length ≤ 3
  r2d : ∀ r ∈ roots2 (partsL xs), -3 ≤ r ∧ r ≤ 3
  defi : (∀ x ∈ minorsP (lawRowsP (polyF xs) (zderiveP (polyF xs))), 0 < x) ↔ (firstMet (fun i => (roots2 (partsL xs)).getD i 0) (roots2 (partsL xs)).length).length = (polyF xs).length - 1
  flen : ∀ i, (((partsL xs).take i).foldl zmulP [1]).length ≤ 5
theorem parts_kle (xs : List Int) : (partsP xs).1 ≤ 900 := by
  unfold partsP
  rw [partsAt_spot]
  have h1 : 0 ≤ drawP xs 0 3 := drawP_lo (by decide)
  have h2 : drawP xs 0 3 < 3 := drawP_hi (by decide)
  omega
theorem form_len {f : List Int} (hform : (∃ f0, f = [f0, 1]) ∨ (∃ f0 f1, f = [f0, f1, 1]) ∨ (∃ f0 f1 f2, f = [f0, f1, f2, 1]) ∨ (∃ f0 f1 f2 f3, f = [f0, f1, f2, f3, 1])) : 2 ≤ f.length ∧ f.length ≤ 5 := by
  rcases hform with ⟨f0, rfl⟩ | ⟨f0, f1, rfl⟩ | ⟨f0, f1, f2, rfl⟩ | ⟨f0, f1, f2, f3, rfl⟩ <;> simp
theorem law_ok (xs : List Int) : LawOk xs := by
  have s := partsL_Shp xs
  have hform := poly_form s
  have hbd := poly_bd s
  have hl := form_len hform
  have hpr := prow_facts s
  have hrt := roots_facts s
  obtain ⟨hg1, hgl, hg, hg0⟩ := gP_facts xs hl.1
  have hres := res_all hform hbd hg1 hgl hg hg0
  have hzd := zderive_facts hform hbd
  have hdg := rows_dets hbd hg hl.2 (by decide)
  have hdd := rows_dets hbd hzd.1 hl.2 (by decide)
  have htk : ∀ i, LBd 20 (polyL ((partsL xs).take i)) ∧ (polyL ((partsL xs).take i)).length ≤ 5 := fun i => by
    rcases s.take i with h | h
    · rw [h]; exact ⟨lbd1 (Bd.one (by decide)), by show (1 : Nat) ≤ 5; decide⟩
    · exact ⟨poly_bd h, (form_len (poly_form h)).2⟩
  exact {
    plen := hpr.1
    prow := fun x hx => (hpr.2 x hx).1
    psm := fun x hx y hy => ((hpr.2 x hx).2 y hy).sm (by decide)
    fsm := fun i x hx => ((htk i).1 x hx).sm (by decide)
    kle := parts_kle xs
    fpos := hl.1
    gsm := fun x hx => (hg x hx).sm (by decide)
    glen := by omega
    sqg := rows_square _ _
    okg := hdg.1
    rlen := rows_length _ _
    tsm := hdg.2
    reso := hres.1
    resm := hres.2.1
    tlast := hres.2.2
    idx := idx_shape s hgl
    rt3 := hrt.1.1
    rtd := hrt.1.2
    zat := fun r h1 h2 => zat_bd hg (by have h5 : (polyF xs).length ≤ 5 := hl.2; omega) h1 h2
    dlen := by have := hzd.2; show (zderiveP (polyL (partsL xs))).length ≤ (polyL (partsL xs)).length; omega
    dsm := fun x hx => (hzd.1 x hx).sm (by decide)
    sqd := rows_square _ _
    okd := hdd.1
    rlend := rows_length _ _
    r23 := hrt.2.1
    r2d := hrt.2.2
    defi := def_shape s
    flen := fun i => (htk i).2 }
end
theorem gP_nil {xs fs : List Int} {kk : Nat} (e : fs = polyF xs) (hk : (partsP xs).1 = kk) (h : decide (ztrimP ((List.range (((fs.length - 1 : Nat) : Int) - 0).toNat).map fun i => drawP xs (kk + i) 5 - 2) = []) = true) : gP xs = [1] := by
  subst e hk
  exact if_pos (of_decide_eq_true h)
theorem gP_cons {xs fs : List Int} {kk : Nat} (e : fs = polyF xs) (hk : (partsP xs).1 = kk) (h : decide (ztrimP ((List.range (((fs.length - 1 : Nat) : Int) - 0).toNat).map fun i => drawP xs (kk + i) 5 - 2) = []) = false) : gP xs = ztrimP ((List.range (((fs.length - 1 : Nat) : Int) - 0).toNat).map fun i => drawP xs (kk + i) 5 - 2) := by
  subst e hk
  exact if_neg (of_decide_eq_false h)
theorem minorsP_len (M : List (List Int)) : (minorsP M).length = M.length := by unfold minorsP; rw [List.length_map, List.length_range]
theorem told_eq {as : List Addr} {cs : List Cel} {rows : List (List Int)} (hl : cs.length = as.length) (hr : rowsOf cs = rows) : ((List.range as.length).map fun i => detP (subM (rowsOf cs) (i + 1))) = minorsP rows := by
  unfold minorsP
  rw [← hl, hr, ← hr, rowsOf_length]
theorem sm_sign (x : Int) : Sm (1 - x.fmod 2 * 2) := by
  have h : x.fmod 2 = x % 2 := Int.fmod_eq_emod_of_nonneg _ (by decide)
  rw [h]
  refine Bd.sm (k := 3) ?_ (by decide)
  unfold Bd
  have : (2 : Nat) ^ 3 = 8 := by decide
  omega
theorem rows_len {as : List Addr} {cs : List Cel} {rows : List (List Int)} (hl : cs.length = as.length) (hr : rowsOf cs = rows) : as.length = rows.length := by
  rw [← hl, ← hr]; unfold rowsOf; rw [List.length_map]
theorem poly_all {xs : List Int} {as : List Addr} {cs : List Cel} {fs : List Int} (hl : cs.length = as.length) (hr : rowsOf cs = partsL xs) (e : fs = ((partsL xs).take as.length).foldl zmulP [1]) : fs = polyF xs := by
  have h : as.length = (partsL xs).length := by rw [← hl, ← hr]; unfold rowsOf; rw [List.length_map]
  rw [e, h, List.take_length]; rfl
theorem wordsL33 : True := by
  k_with "L call builtin:len" => (k_here; k_extra "lenset")
  k_with "L subscriptTail Name Name ref int" => (k_here; k_extra "rowat")
  k_with "L subscriptTail Name BinOp ref int" => (k_here; k_extra "rowat")
  k_with "L subscriptTail Name Constant ref int" => (k_here; k_extra "part0")
  k_with "L call builtin:min" => (k_here; k_extra "minof")
  k_with "L isTrue BoolOp" => (k_here; k_extra "cutand")
  k_with "L compareOp NotIn int ref" => (k_here; k_extra "notin0")
  k_with "L compareOp NotEq int int" => (k_here; k_extra "neqf")
  k_with "L eval IfExp" => (k_here; k_extra "cutif")
  k_with "L compareOp Eq bool bool" => (k_here; k_extra "eqbb")
  k_with "L compareOp Eq int int" => (k_here; k_extra "eqset")
  trivial
theorem firstMet_len {l : List Int} (h : l.length ≤ 3) : (firstMet (fun i => l.getD i 0) l.length).length ≤ 3 := Nat.le_trans (firstMet_length_le _ _) h
set_option maxRecDepth 100000 in
set_option maxHeartbeats 8000000 in
theorem law_holds : Challenge.rw_xm0088_01.Holds := hd (by
  k_go0
  all_goals (try k_fold)
  walk_at "mfold"
  have hlaw := law_ok
  have hNC : NoConsMark := ⟨⟩
  have hMk : KstMark := kstMark
  k_with "callmat" => k_dflt first
    | ((have hh9 := hrowsD); (with_reducible show wpAny _ _ (PySem.call (Value.ref 186) _) _ _ _); (refine' con_useL ?k1 ?k2 ?k3 ?k4 ?k5 ?kK ?hc ?kd ?ku ?_; (case k1 => k_asm); (case k2 => k_asm); (case k3 => k_asm); (case k4 => k_asm); (case k5 => k_asm); (case kK => first | exact rfl | assumption); (case hc => (refine' leading_minors_c _ _ _ _ _ _ _ _ _ ?lma ?lmM ?lml ?lmc ?lmq ?lms ?lmo; (case lma => walk_at "m_mem"); (case lml => exact hlenD); (case lmM => exact fun p hp => List.mem_cons_of_mem _ (List.mem_append_left _ hp)); (case lmc => exact hcD); (case lmq => (rw [hrowsD]; exact hok.sqd)); (case lms => exact Nat.le_trans (Nat.le_of_eq hdl8) (Nat.le_trans (Nat.sub_le _ _) (Nat.le_trans hln2 (by decide)))); (case lmo => (rw [hrowsD]; exact fun i _ => hok.okd i)))); (case kd => ktr_room); (case ku => ktr_units)); intro lE itsE nE hE tkE hiE FE NE oE; (have htsD := told_eq hlenD hrowsD); (rw [htsD] at hiE); (have hEl : (minorsP (lawRowsP (polyF XS) (zderiveP (polyF XS)))).length = fs2.length - 1 := (minorsP_len _).trans (hok.rlend.trans (by rw [e3]))); (have hdf := hok.defi); (generalize minorsP (lawRowsP (polyF XS) (zderiveP (polyF XS))) = ds at hiE hEl hdf); (rw [← e3] at hdf); (clear oE htsD); (try dsimp only); (try k_fold))
    | ((have hh9 := hyR); (with_reducible show wpAny _ _ (PySem.call (Value.ref 205) _) _ _ _); (have hdsm := hok.dsm); (have hdln := hok.dlen); (rw [← e3] at hdsm hdln); (refine' con_use ?k1 ?k2 ?k3 ?k4 ?k5 ?kK ?hc ?kd ?ku ?_; (case k1 => k_asm); (case k2 => k_asm); (case k3 => k_asm); (case k4 => k_asm); (case k5 => k_asm); (case kK => first | exact rfl | assumption); (case hc => (refine' law_rows_c _ _ _ _ _ _ _ _ _ ?lrm ?lri ?lrz ?lry _ _ _ _ ?lrn ?lrj ?lrk ?lro ?lrp; (case lrm => walk_at "m_mem"); (case lri => walk_at "ci"); (case lrn => walk_at "m_mem"); (case lrj => walk_at "ci"); (case lrz => exact Nat.le_trans hln2 (by decide)); (case lry => exact Nat.le_trans (by decide) hfp3); (case lrk => exact hdln); (case lro => exact hsm2); (case lrp => exact hdsm))); (case kd => ktr_room); (case ku => ktr_units)); intro r8 nw8 h8 tk8 hR8 F8 N8; obtain ⟨FdD, asD, csD, nfD, rfl, rfl, hlenD, hcD, hrowsD, hndD, hFdD, hrestD⟩ := hR8; (rw [e3] at hrowsD); (have hdl8 := rows_len hlenD hrowsD); (rw [hok.rlend, ← e3] at hdl8); (try dsimp only); (try k_fold))
    | ((have hh9 := hrowsR); (with_reducible show wpAny _ _ (PySem.call (Value.ref 186) _) _ _ _); (refine' con_useL ?k1 ?k2 ?k3 ?k4 ?k5 ?kK ?hc ?kd ?ku ?_; (case k1 => k_asm); (case k2 => k_asm); (case k3 => k_asm); (case k4 => k_asm); (case k5 => k_asm); (case kK => first | exact rfl | assumption); (case hc => (refine' leading_minors_c _ _ _ _ _ _ _ _ _ ?lma ?lmM ?lml ?lmc ?lmq ?lms ?lmo; (case lma => walk_at "m_mem"); (case lml => exact hlenR); (case lmM => exact fun p hp => List.mem_cons_of_mem _ (List.mem_append_left _ hp)); (case lmc => exact hcR); (case lmq => (rw [hrowsR]; exact hok.sqg)); (case lms => omega); (case lmo => (rw [hrowsR]; exact fun i _ => hok.okg i)))); (case kd => ktr_room); (case ku => ktr_units)); intro lT itsT nT hT tkT hiT FT NT oT; (have hts := told_eq hlenR hrowsR); (rw [hts] at hiT); (have htl : (minorsP (lawRowsP (polyF XS) (gP XS))).length = fs2.length - 1 := (minorsP_len _).trans (hok.rlen.trans (by rw [e3]))); (have htl5 : (minorsP (lawRowsP (polyF XS) (gP XS))).length ≤ 5 := by omega); (have htsm := hok.tsm); (have htla := hok.tlast); (have hidx := hok.idx); (generalize minorsP (lawRowsP (polyF XS) (gP XS)) = ts at hiT htl htl5 htsm htla hidx); (rw [← e3] at hidx); (replace oT := off1_of oT); (try simp only [LCg.Off1, and_true] at oT); (try dsimp only); (try k_fold))
    | ((with_reducible show wpAny _ _ (PySem.call (Value.ref 162) _) _ _ _); (have hreso := hok.reso); (have hresm := hok.resm); (rw [← e3] at hreso hresm htla); (refine' con_useI ?k1 ?k2 ?k3 ?k4 ?k5 ?kK ?hc ?kd ?ku ?_; (case k1 => k_asm); (case k2 => k_asm); (case k3 => k_asm); (case k4 => k_asm); (case k5 => k_asm); (case kK => first | exact rfl | assumption); (case hc => (refine' resultant_c _ _ _ _ _ _ _ _ _ ?rea ?reb _ _ _ _ ?rec ?red ?ree; (case rea => walk_at "m_mem"); (case reb => walk_at "ci"); (case rec => walk_at "m_mem"); (case red => walk_at "ci"); (case ree => exact hreso))); (case kd => ktr_room); (case ku => ktr_units)); intro tV hV tkV FV NV; (generalize resP fs2 _ = rv at hresm htla ⊢); (rw [← getD_last (by omega)] at htla); (try dsimp only); (try k_fold))
    | ((with_reducible show wpAny _ _ (PySem.call (Value.ref 210) _) _ _ _); (have hrP : rowsOf csP = partsL XS := hrowsP); (have hrt3 := hok.rt3); (have hrtd := hok.rtd); (refine' con_useI ?k1 ?k2 ?k3 ?k4 ?k5 ?kK ?hc ?kd ?ku ?_; (case k1 => k_asm); (case k2 => k_asm); (case k3 => k_asm); (case k4 => k_asm); (case k5 => k_asm); (case kK => first | exact rfl | assumption); (case hc => (refine' law_index_c _ _ _ _ _ _ _ _ _ ?ixa ?ixM hlenP hcP ?ixr ?ixs ?ixt ?ixd _ iG nG (gP XS) ?ixm hiG hok.zat; (case ixa => walk_at "m_mem"); (case ixM => (intro p9 hp9; walk_at "m_mem")); (case ixr => (rw [hrP]; exact fun x hx => ⟨Nat.le_trans (by decide) (hok.prow x hx).1, Nat.le_trans (hok.prow x hx).2 (by decide)⟩)); (case ixs => (rw [hasP]; exact Nat.le_trans hok.plen (by decide))); (case ixt => (rw [hrP]; exact hrt3)); (case ixd => (rw [hrP]; exact hrtd)); (case ixm => walk_at "m_mem"))); (case kd => ktr_room); (case ku => ktr_units)); intro tX hX tkX FX NX; (rw [hrP]); (try dsimp only); (try k_fold))
    | ((have hh9 := hyg); (with_reducible show wpAny _ _ (PySem.call (Value.ref 205) _) _ _ _); (have hgsm := hok.gsm); (have hgln := hok.glen); (rw [← e3] at hgln); (refine' con_use ?k1 ?k2 ?k3 ?k4 ?k5 ?kK ?hc ?kd ?ku ?_; (case k1 => k_asm); (case k2 => k_asm); (case k3 => k_asm); (case k4 => k_asm); (case k5 => k_asm); (case kK => first | exact rfl | assumption); (case hc => (refine' law_rows_c _ _ _ _ _ _ _ _ _ ?lrm ?lri ?lrz ?lry _ _ _ _ ?lrn ?lrj ?lrk ?lro ?lrp; (case lrm => walk_at "m_mem"); (case lri => walk_at "ci"); (case lrn => walk_at "m_mem"); (case lrj => walk_at "ci"); (case lrz => omega); (case lry => omega); (case lrk => exact hgln); (case lro => exact hsm2); (case lrp => exact hgsm))); (case kd => ktr_room); (case ku => ktr_units)); intro r9 nw9 h9 tk9 hR9 F9 N9; obtain ⟨FdR, asR, csR, nfR, rfl, rfl, hlenR, hcR, hrowsR, hndR, hFdR, hrestR⟩ := hR9; (rw [e3] at hrowsR); (have hrl9 := rows_len hlenR hrowsR); (rw [hok.rlen, ← e3] at hrl9); (try dsimp only); (try k_fold))
    | ((have hgo9 := g_off (oI := oIg) (oC := oCg) (oD := LCg.lst yg) offg hgr9); (refine' con_use ?k1 ?k2 ?k3 ?k4 ?k5 ?kK ?hc ?kd ?ku ?_; (case k1 => k_asm); (case k2 => k_asm); (case k3 => k_asm); (case k5 => k_asm); (case kK => first | exact rfl | assumption); (case hc => exact law_draw_c _ _ _ _ _ _ _ 0 ys XS _ kg tkg9 5 _ (by walk_at "m_mem") hys1 (by rw [← hXS, List.length_take]; omega) (by omega) (by decide) (by decide) hgo9); (case k4 => refine kst_newsOf (by k_asm) ?_; walk_at "sub_all"); (case kd => ktr_room); (case ku => ktr_units)); intro r9 nw9 h9 tk9 hR9 F9 N9; obtain ⟨t9, tv9, rfl, rfl⟩ := hR9;  (try dsimp only); (try k_fold))
    | ((rename _ < _ ∧ _ < _ ∧ _ + 1 + 1 < _ ∧ _ + 1 < _ => hl5); (rename News _ _ _ _ => lN); (have hst5 := law_start lN hl5); (rename IntsAre ys _ => hys0); (have hys := ints_cast (List.map_id' _) hys0); (refine' con_use ?k1 ?k2 ?k3 ?k4 ?k5 ?kK ?hc ?kd ?ku ?_; (case k1 => k_asm); (case k2 => k_asm); (case k3 => k_asm); (case k5 => k_asm); (case kK => first | exact rfl | assumption); (case k4 => exact hst5.1); (case hc => exact law_parts_c _ _ _ _ _ _ _ 0 ys _ _ _ List.mem_cons_self hys (by simp only [List.length_take]; omega) hst5.2); (case kd => ktr_room); (case ku => ktr_units)); (intro r9 nw9 h9 tk9 hR9 F9 N9; obtain ⟨Fd, asP, csP, nfP, tvP, rfl, rfl, hlenP, hcP, hrowsP, hndP, hFdP, hPP, hPFP, hrestP⟩ := hR9; (try dsimp only); (try k_fold)))
  k_with "loop" => k_dflt first
    | (k_of "part" => ((rename Fr _ _ _ _ => lF); (rename News _ _ _ _ => lN); (rename _ < _ ∧ Fd < _ ∧ AllLt _ (MatL asP csP ++ _) => hl6); (rename IntsAre ys (List.take 14 _) => hys1); (generalize hXS : List.take 14 _ = XS at hys1 hrowsP); (have hok := hlaw XS); (have lN2 := news_tl lN); (with_unfolding_all refine' f_loop (fun i => ((partsL XS).take i).foldl zmulP [1]) _ (_, [_], [1], 0) (by rfl) ?gl lF lN2 ?gp ⟨rfl, .cons _ _ .nil, ra_off hl6⟩ (fun c2 i2 r2 I2 oI2 u2 h2 tk2 hi2 hp2 hI2 F2 N2 => ?_) (fun c2 u2 h2 tk2 hp2 F2 N2 => ?_)); (case gp => kst_all); (case gl => exact List.mem_cons_of_mem _ List.mem_cons_self); (all_goals (try (have hpf2 := part_facts hlenP hcP hrowsP hi2; obtain ⟨itsp, xsp, nnp, hmp, hip, hxp, hfp⟩ := hpf2))); (all_goals (cases c2 using Mine.prod4 with | h f2 its2 fs2 n2 => ?_)); (all_goals (obtain ⟨e2, is2, off2⟩ := hp2)); (all_goals (dsimp only [LedF, PsF] at e2 is2 F2 N2)); (all_goals (try dsimp only [LedF] at hI2)); (all_goals (have hsm2 : ∀ x ∈ fs2, Sm x := e2 ▸ hok.fsm _)); (all_goals (have hln2 : fs2.length ≤ 5 := e2 ▸ hok.flen _)); (all_goals (try (have hpsm := hok.psm _ hxp))); (all_goals (try (have hpro := hok.prow _ hxp))); (all_goals (try clear lF lN lN2)); (all_goals (try k_fold))))
  k_with "sms" => first | assumption
  k_with "compRows" => k_dflt ((rename News _ _ _ _ => dN); (have e3 := poly_all hlenP hrowsP e2); (have hfp3 : 2 ≤ fs2.length := e3 ▸ hok.fpos); (have hkle := hok.kle); (have hasP : asP.length = (partsL XS).length := rows_len hlenP hrowsP); (have hgr9 := g_rest (oF := listOf its2.toArray n2) off2 hPFP hPP hlenP hst5.2); (generalize hkk : (partsP (List.take 14 _)).fst = kk at dN); (rw [hXS] at hkk); (rw [hkk] at hkle); (have dN2 := news_swap dN); (refine LCg.CompSrc.range (b := ((fs2.length - 1 : Nat) : Int)) (by rfl) (by k_asm) dN2 (isRange_cast ?crb (by assumption)) ?crs (by exact rangeSize_nat _ _) ?crz ?_); (case crb => omega); (case crs => exact small_one (by omega) (by omega) (by omega) (by omega)); (case crz => (rw [PySem.sizeLine_eq]; omega)); (intro g9); (refine' comp_led (LedG _ _ _ _) (fun i => drawP XS (kk + i) 5 - 2) (fun i c => c.1 = kk + i) (kk, _) rfl (fun cg ig tg Ig oIg Cg oCg Dg mg yg hg tkg Eg hig hpg hCg hxg Fg Ng offg neg => ?_) (fun yg cg hyg hpg => ?_)); (all_goals (obtain ⟨kg, tkg9⟩ := cg)); (all_goals (dsimp only at hpg)); (all_goals (try (dsimp only [LedG] at Ng offg))); (all_goals (try dsimp only [LedG])); (all_goals (try clear dN dN2)); (all_goals (try k_fold)))
  k_with "cellset" => k_dflt ((refine row_name (fun DR hDR => ?_)); (subst hDR); (rename News _ _ _ _ => lN); (have NR := take_list (l := DR) (xs := [1] ++ ts) lN (by walk_at "m_mem") (by assumption)); (obtain ⟨iR, nR, hiR, NR⟩ := NR); (have NT := news_one (l := lT) (o := listOf itsT.toArray nT) lN (by walk_at "m_mem")); (have NG := news_one (l := lG) (o := listOf iG.toArray nG) lN (by walk_at "m_mem")); (have NF := news_one (l := f2) (o := listOf its2.toArray n2) lN (by walk_at "m_mem")); (have NFd := news_one (l := Fd) (o := listOf (asP.map Value.ref).toArray nfP) lN (by walk_at "m_mem")); (have NM : News _ _ _ (MatL asP csP) := kst_newsOf lN (fun p9 hp9 => by walk_at "m_mem")); (have N6 := news_pk NR (news_pk NT (news_pk NG (news_pk NF (news_pk NFd NM))))); (refine' rowc_set ?csF ?cse ?csc lN ?cso ?csd N6 ?csL ?csk ?csl ?_; (case csF => k_asm); (case cse => exact rfl); (case csc => exact rfl); (case cso => walk_at "m_mem"); (case csd => assumption); (case csL => exact lists_cons (lists_cons (lists_cons (lists_cons (lists_cons lists_mat))))); (case csk => exact rfl); (case csl => exact rfl)); (clear lN NR NT NG NF NFd NM N6); intro hC9 oC9 dC9 FC9 NC9 offC9; (try k_fold))
  k_with "compT" => k_dflt first
    | ((rename Fr _ _ _ _ => lF); (rename News _ _ _ _ => lN); (rename IsRange _ _ _ _ _ _ _ _ => hR8); (refine LCt.CompSrcT.range (b := ((fs2.length - 1 : Nat) : Int)) (by rfl) lF lN (isRange_cast ?crb hR8) ?crs (by exact rangeSize_nat _ _) ?crz ?_); (case crb => omega); (case crs => exact small_one (by omega) (by omega) (by omega) (by omega)); (case crz => (rw [PySem.sizeLine_eq]; omega)); (intro g9); (refine' comp_changes (N := ts.length) ([1] ++ ts) (by rw [htl]; exact to0 _) (fun k' t' I' oI' C' oC' D' m' ys' l' h' tk' E' hlo' hhi' hI' hC' hx' F' N' off' ne' => ?_) (fun ys9 cs9 hcs9 hy9 hl9 => ?_)); (all_goals (try clear lF lN hR8)); (all_goals (try (have off9 := off'))); (all_goals (try (simp only [LCg.Off3, and_true] at off'))))
    | ((refine LCt.CompSrcT.ledger (by rfl) (by k_asm) (by k_asm) (by walk_at "m_mem") (by simp only [List.size_toArray, List.length_map]; exact Nat.le_trans (Nat.le_of_eq hasP) (Nat.le_trans hok.plen (by decide))) ?_); intro g9; (refine' comp_filt_rows rtG hlenP hcP (fun r its0 xs0 nn0 I' oI' C' oC' D' m' ys' l' h' tk' E' hr' hx0' hi' hil' hiy' hC' hx' F' N' off' ne' => ?_) (fun ysR hyR => ?_)); (all_goals (try (have hrw' := hok.prow _ (hrowsP ▸ hx0')))); (all_goals (try (have off9 := off'))); (all_goals (try (simp only [LCg.Off3, and_true] at off'))); (all_goals (try (change IntsAre ysR (roots2 (rowsOf csP)) at hyR))))
  k_with "rowat" => k_dflt first
    | ((refine' int_item (xs := [1] ++ ts) (a := DR) ?ran ?ram hiR hlo' (row_lt0 hhi') (fit0 hhi' htl5) ?_ ?ras; (case ran => k_asm); (case ram => walk_at "m_mem"); (case ras => with_unfolding_all rfl)); intro t9)
    | ((refine' int_item (xs := [1] ++ ts) (a := DR) ?ran ?ram hiR (nn1 hlo') (row_lt1 hhi') (fit1 hhi' htl5) ?_ ?ras; (case ran => k_asm); (case ram => walk_at "m_mem"); (case ras => with_unfolding_all rfl)); intro t9)
  k_with "part0" => k_dflt ((have hh9 := hrw'); (refine' int_item (xs := xs0) (a := r) ?p0n ?p0m hi' (Int.le_refl 0) (part_lt hrw') (by decide) ?_ ?p0s; (case p0n => k_asm); (case p0m => walk_at "m_mem"); (case p0s => with_unfolding_all rfl)); intro t9)
  k_with "minof" => k_dflt ((refine' int_min ?mnF ?mnN ?mnA hiE (by rw [hEl]; exact Nat.sub_pos_of_lt (Nat.lt_of_lt_of_le (by decide) hfp3)) (by with_unfolding_all rfl) ?_; (case mnF => k_asm); (case mnN => k_asm); (case mnA => walk_at "m_mem")); intro hM9 mM9 tM9 tkM9 FM9 NM9 hmem9 hmin9; (try dsimp only))
  k_with "cutif" => k_dflt ((have hh9 := hyg); (fail_if_success (have hh8 := hCut8)); (rename Fr _ _ _ _ => lF); (rename News _ _ _ _ => lN); (refine' cut_val (gP XS) lF lN (fun hCut8 => ?_) (fun lG iG nG hG8 tkG8 hiG FG8 NG8 => ?_)); (all_goals (try dsimp only)); (all_goals (try k_fold)))
  k_with "cutand" => k_dflt ((have hh9 := hy9); (fail_if_success (have hh8 := hCut9)); (rename Fr _ _ _ _ => lF); (rename News _ _ _ _ => lN); (have lN2 := news_tl lN); (refine' cut_bool lF lN2 (fun hCut9 => ?_) (fun hZ9 tkZ9 FZ9 NZ9 => ?_)); (all_goals (try clear lN2)); (all_goals (try dsimp only)); (all_goals (try k_fold)))
  k_with "notin0" => k_dflt ((have hh9 := hy9); (refine' notin_split (l := lT) ?nsN ?nsA hiT (fun h0 => ?_) (fun h0 => ?_); (case nsN => k_asm); (case nsA => walk_at "m_mem")))
  k_with "neqf" => k_dflt refine ne_false (idx_use hcs9 htl (hidx h0)) ?_
  k_with "eqset" => k_dflt ((have hh9 := S6); (refine eq_ints ?_); (try dsimp only))
  k_with "eqbb" => k_dflt ((refine eq_true (fin_eq hmem9 hmin9 hdf hfp3) ?_); (try dsimp only); k_unfold; exact law_end (by with_reducible assumption) (by with_reducible assumption))
  k_with "setof" => k_dflt ((rename Fr _ _ _ _ => lF); (rename News _ _ _ _ => lN); (have hrP : rowsOf csP = partsL XS := hrowsP); (rw [hrP] at hyR); (refine' set_N (by rfl) lF lN ?som hyR hok.r23 hok.r2d ?_; (case som => walk_at "m_mem")); (clear lF lN); intro D6 h6 tk6 F6 N6 S6; (try dsimp only))
  k_with "lenset" => k_dflt first
    | (refine len_SJ S6 (firstMet_len hok.r23) ?_; (try dsimp only))
    | ((have hh9 := hrw'); (refine' int_len (xs := xs0) (l := r) ?lna ?lnb hi' (part_le hrw') ?_; (case lna => k_asm); (case lnb => walk_at "m_mem")))
    | refine len_SJ S6 (firstMet_len hok.r23) ?_
    | ((have hh9 := hy9); (refine' int_len (xs := cs9) ?lna ?lnb hy9 (le500 hl9 htl5) ?_; (case lna => k_asm); (case lnb => walk_at "m_mem")))
  k_with "sm" => first | assumption | exact row_sm htsm _ | exact hresm.sm (by decide) | exact sm_sign _
  k_with "size" => (simp only [List.length_map, List.length_range]; omega)
  walk_at "ksteps"
  · rename I2 ≠ _ ∧ _ => ha9
    refine' sgend_intro (_, _, zmulP fs2 xsp, _) ?qF ?qN ?qo ?q1 ?qz ?qp
    (case qF => assumption)
    (case qN => refine kst_newsOf (by k_asm) ?_; walk_at "sub_all")
    (case qo => exact fled_off hI2 ha9.1)
    (case q1 => kst_all)
    (case qz => walk_at "m_same")
    (case qp => exact ⟨(congrArg (fun a => zmulP a xsp) e2).trans hfp.symm, by assumption, off1_ne ha9.2.2⟩)
  · exact LCg.CompEnd.intro (by k_asm) (by k_asm) (LedG _ _ _ _ (kg + 1, tv9)) (by walk_at "sub_all") ⟨offg.1, offg.2⟩ trivial ⟨(kg + 1, tv9), _, by rw [hpg], rfl, by show kg + 1 = kk + (ig + 1); omega⟩
  · exact cutv_end (its := [_]) (by k_asm) (by k_asm) (by walk_at "m_mem") (by rw [gP_nil e3 hkk (by assumption)]; exact .cons _ _ .nil) (by walk_at "sub_all")
  · exact cutv_end (by k_asm) (by k_asm) (by walk_at "m_mem") (by rw [gP_cons e3 hkk (by assumption)]; walk_at "ci") (by walk_at "sub_all")
  · exact LCg.CompEnd.intro (by k_asm) (by k_asm) _ (fun p hp => hp) off9 trivial (kci_el (chG_yes (by assumption)) rfl rfl)
  · exact LCg.CompEnd.intro (by k_asm) (by k_asm) _ (fun p hp => hp) off9 trivial (kci_no (chG_no (by assumption)) rfl)
  · exact cut_end (by k_asm) (by k_asm) (by walk_at "sub_all")
  · exact cut_end (by k_asm) (by k_asm) (by walk_at "sub_all")
  · exact LCg.CompEnd.intro (by k_asm) (by k_asm) _ (fun p hp => hp) off9 (.inr ⟨_, by walk_at "m_mem", rfl, _, rfl⟩) (kci_el (rtG_two (by assumption)) rfl rfl)
  · exact LCg.CompEnd.intro (by k_asm) (by k_asm) _ (fun p hp => hp) off9 (.inr ⟨_, by walk_at "m_mem", rfl, _, rfl⟩) (kci_no (rtG_not (by assumption)) rfl))
end Mine
end
set_option maxRecDepth 100000 in
set_option maxHeartbeats 8000000 in
theorem PySem.Challenge.cw_xm0088_01_holds : PySem.Challenge.rw_xm0088_01.Holds := by
  exact Mine.law_holds
