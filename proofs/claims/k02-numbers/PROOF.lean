import PyProof.Rows.All
import Wide.All
import OpenK.AllK
import Wide.FinOn
import HandS.ForMost
import HandS.EndBits
import HandS.Wide
import HandS.TupAny
import HandS.IsInst
import HandS.Evl
import HandS.Steps
import KE.Datum
import KE.IntTextLaws
import KE.IntTextText
import HandS.Style
import HandS.TupLe
import PySem.Challenge.RW_stemkeep_k02_numbers_of_worths
set_option Elab.async false
set_option linter.all false
set_option maxRecDepth 100000
set_option maxHeartbeats 4000000
namespace Sk
open PySem PySem.Spec PyProof.Rows L2
/-! ### powers of middling numbers -/
def CPowW (i j : Int) : Prop := 0 ≤ j ∧ j ≤ 1000 ∧ i.natAbs < 2 ^ 4096
theorem op_powW {X : Cx} : OpR X (binaryOp .Pow) (rI CPowW fun i j => .int (i ^ j.toNat)) := opI fun i j _ _ _ _ _ hc q => by
  obtain ⟨h0, h1, h2⟩ := hc
  refine pow_int h0 ?_ q
  have b : Builtin.Int.intBits i ≤ 4096 := by
    have h3 := PySem.Flt.log2_lt_of (n := i.natAbs) (by decide : 0 < 4096) h2
    unfold Builtin.Int.intBits
    split <;> omega
  have b2 : (Builtin.Int.intBits i : Int) ≤ 4096 := by omega
  have b3 : (Builtin.Int.intBits i : Int) * j ≤ 4096 * 1000 := Int.mul_le_mul b2 h1 h0 (by decide)
  omega
/-! ### rules that lean on the written part, K told (a comprehension's block has it too) -/
section
variable {X : Cx}
theorem k_ix_list (K : PySem.W.Frag) (e : X.K = K := by rfl) : IxR X (rIxL K) := by subst e; exact ix_list
theorem k_ix_tup (K : PySem.W.Frag) (e : X.K = K := by rfl) : IxR X (rIxT K) := by subst e; exact ix_tup
theorem k_sl_list (K : PySem.W.Frag) (e : X.K = K := by rfl) : SlR X (rSlL K) := by subst e; exact sl_list
theorem k_sl_tup (K : PySem.W.Frag) (e : X.K = K := by rfl) : SlR X (rSlA K) := by subst e; exact sl_tupA
theorem k_len (K : PySem.W.Frag) (e : X.K = K := by rfl) : CallR X (.builtin "len") (Evl.rLenS K) := by subst e; exact call_len_seq
theorem k_catA (K : PySem.W.Frag) (e : X.K = K := by rfl) : OpR X (binaryOp .Add) (rCatA K) := by subst e; exact op_catA
theorem k_eqD (K : PySem.W.Frag) (hu : X.A.units + 64 < cLine) (e : X.K = K := by rfl) : OpR X (compareOp .Eq) (rEqD K) := by subst e; exact op_eqD hu
theorem k_neD (K : PySem.W.Frag) (hu : X.A.units + 64 < cLine) (e : X.K = K := by rfl) : OpR X (compareOp .NotEq) (rNeD K) := by subst e; exact op_neD hu
theorem k_in (K : PySem.W.Frag) (e : X.K = K := by rfl) : OpR X (compareOp .In) (rIn K false) := by subst e; exact op_in_seq
theorem k_notIn (K : PySem.W.Frag) (e : X.K = K := by rfl) : OpR X (compareOp .NotIn) (rIn K true) := by subst e; exact op_notIn_seq
theorem k_list (K : PySem.W.Frag) (e : X.K = K := by rfl) : CallR X (.type "list") (Evl.rListS K) := by subst e; exact call_list_of
def rTupOf (K : PySem.W.Frag) : List V → Hp → VK → Prop := fun xs H Q => ∃ p ys, xs = [.ref p] ∧ ((SqL K H p ys ∧ ∀ l, H l = none → Q (.ref l) (upd H l (.tup ys))) ∨ (SqT K H p ys ∧ Q (.ref p) H))
theorem k_tuple (K : PySem.W.Frag) (e : X.K = K := by rfl) : CallR X (.type "tuple") (rTupOf K) := by subst e; exact call_tuple_of
theorem k_isi (K : PySem.W.Frag) (e : X.K = K := by rfl) : CallR X (.builtin "isinstance") (rIsi K) := by subst e; exact call_isi
def rJoin (K : PySem.W.Frag) : V → List V → Hp → VK → Prop := fun x xs H Q => ∃ a p, ∃ ys : List Str, x = .str a ∧ xs = [.ref p] ∧ (SqL K H p (ys.map V.str) ∨ SqT K H p (ys.map V.str)) ∧
  (ys.map (·.length)).sum + ys.length * a.length ≤ 16777216 ∧ Q (.str (Txt.join a ys)) H
theorem k_mt_join (K : PySem.W.Frag) (e : X.K = K := by rfl) : MtR X "str.join" (rJoin K) := by subst e; exact mt_join
theorem k_pi_list (K : PySem.W.Frag) {tg l : Expr} {tl : TE} (hl : PE X l tl) (e : X.K = K := by rfl) : PI X tg l (iList K tl) := by subst e; exact pi_list hl
theorem k_pi_tup (K : PySem.W.Frag) {tg l : Expr} {tl : TE} (hl : PE X l tl) (e : X.K = K := by rfl) : PI X tg l (iTup K tl) := by subst e; exact pi_tup hl
end
/-! ### heaps but for one object -/
def Chg (b : Addr) (H H' : Hp) : Prop := ∀ a o, a ≠ b → H a = some o → H' a = some o
theorem Chg.refl (b : Addr) (H : Hp) : Chg b H H := fun _ _ _ h => h
theorem Chg.trans {b : Addr} {H H1 H2 : Hp} (a : Chg b H H1) (c : Chg b H1 H2) : Chg b H H2 := fun x o n h => c x o n (a x o n h)
theorem Chg.upd {b : Addr} {H : Hp} {o : HO} : Chg b H (upd H b o) := fun a u n h => by rw [upd_ne n]; exact h
theorem Chg.new {b p : Addr} {H : Hp} {o : HO} (h : H p = none) : Chg b H (L2.upd H p o) := fun a u n e => by rw [upd_ne (ne_of_none e h)]; exact e
theorem Chg.same {b : Addr} {H H' : Hp} (h : Same H H') : Chg b H H' := fun a o _ e => h a o e
theorem same_new {H : Hp} {p : Addr} {o : HO} (h : H p = none) : Same H (upd H p o) := fun b u e => by
  rw [upd_ne (ne_of_none e h)]
  exact e
/-! ### the bag -/
def BagAt (N : Nat) (b : Addr) (H : Hp) : Prop := ∃ x y z : Int, H b = some (.lst [.int x, .int y, .int z]) ∧ 0 ≤ y ∧ y < 2 ^ 130 ∧ 0 ≤ z ∧ z ≤ (N : Int)
theorem BagAt.mono {N M : Nat} {b : Addr} {H : Hp} (h : BagAt N b H) (l : N ≤ M) : BagAt M b H := by
  obtain ⟨x, y, z, e, a, c, d, f⟩ := h
  exact ⟨x, y, z, e, a, c, d, by omega⟩
theorem BagAt.same {N : Nat} {b : Addr} {H H' : Hp} (h : BagAt N b H) (s : Same H H') : BagAt N b H' := by
  obtain ⟨x, y, z, e, r⟩ := h
  exact ⟨x, y, z, s _ _ e, r⟩
theorem BagAt.chg {N : Nat} {b c : Addr} {H H' : Hp} (h : BagAt N b H) (s : Chg c H H') (n : b ≠ c) : BagAt N b H' := by
  obtain ⟨x, y, z, e, r⟩ := h
  exact ⟨x, y, z, s _ _ n e, r⟩
theorem BagAt.new {N : Nat} {b p : Addr} {H : Hp} {o : HO} (h : BagAt N b H) (n : H p = none) : BagAt N b (upd H p o) := h.same (same_new n)
theorem BagAt.ne {N : Nat} {b p : Addr} {H : Hp} (h : BagAt N b H) (n : H p = none) : b ≠ p := by
  obtain ⟨x, y, z, e, _⟩ := h
  exact ne_of_none e n
theorem BagAt.neT {N : Nat} {b a : Addr} {H : Hp} {xs : List V} (h : BagAt N b H) (e : H a = some (.tup xs)) : a ≠ b := by
  obtain ⟨x, y, z, e2, _⟩ := h
  exact ne_of e e2 (by intro z; cases z)
theorem BagAt.rd {K : PySem.W.Frag} {N : Nat} {b : Addr} {H : Hp} (h : BagAt N b H) : ∃ xs, SqL K H b xs := by
  obtain ⟨x, y, z, e, _⟩ := h
  exact ⟨_, .inl (.inl e)⟩
/-- a draw: some number below m, the bag one turn older -/
def spDraw : Sp := fun vs H Q _ => ∃ (b : Addr) (m : Int) (N : Nat), vs = [.ref b, .int m] ∧ 0 < m ∧ m < 2 ^ 256 ∧ N < 2 ^ 60 ∧ BagAt N b H ∧
  ∀ (H' : Hp) (r : Int), Chg b H H' → BagAt (N + 1) b H' → 0 ≤ r → r < m → Q (.int r) H'
theorem div_ok {m : Int} (h : 0 < m) (l : m < 2 ^ 256) : CDivW 0 m := wide_div (b := 256) h (by omega) (by decide) (by decide)
theorem pow_ok {i : Int} (h0 : 0 ≤ i) (h : i < 2 ^ 140) : CPowW i 3 := ⟨by decide, by decide, by
  have h1 : i.natAbs < 2 ^ 140 := by omega
  exact Nat.lt_of_lt_of_le h1 (Nat.pow_le_pow_right (by decide) (by decide))⟩
theorem mul_ok {i j : Int} (h0 : i.natAbs < 2 ^ 256) (h : j.natAbs < 2 ^ 256) : CMulW i j := wide_mul h0 h (by decide) (by decide) (by decide)
end Sk

namespace Sk
open PySem PySem.Spec PyProof.Rows L2
/-! ### texts by their signs -/
abbrev tl (s : Str) : List Nat := s.cps.toList
def Wc (c : Nat) : Prop := 32 ≤ c ∧ c ≤ 126 ∧ c ≠ 37
instance (c : Nat) : Decidable (Wc c) := by unfold Wc; infer_instance
def WorthS (s : Str) : Prop := ∀ c ∈ tl s, Wc c
instance (s : Str) : Decidable (WorthS s) := by unfold WorthS; infer_instance
def lawSigns : Str := Str.ofString " !\"#$&'()*+,-./0123456789:;<=>?@ABCDEFGHIJKLMNOPQRSTUVWXYZ[\\]^_`abcdefghijklmnopqrstuvwxyz{|}~"
theorem lawSigns_worth : WorthS lawSigns := by decide +kernel
theorem lawSigns_len : lawSigns.length = 94 := by decide +kernel
theorem lawSigns_mem {c : Nat} : c ∈ tl lawSigns ↔ Wc c := by
  constructor
  · exact fun h => lawSigns_worth c h
  · intro h
    have h1 : c < 127 := by have := h.2.1; omega
    have key : ∀ d < 127, Wc d → d ∈ tl lawSigns := by decide +kernel
    exact key c h1 h
theorem len_tl (s : Str) : s.length = (tl s).length := by simp [Str.length, tl]
theorem tl_inj {a b : Str} (h : tl a = tl b) : a = b := by
  obtain ⟨a⟩ := a
  obtain ⟨b⟩ := b
  exact congrArg Str.mk (Array.toList_inj.mp h)
theorem tl_cat (a b : Str) : tl (a ++ b) = tl a ++ tl b := TL.tl_append a b
theorem joinL_nil : ∀ l : List (List Nat), TL.joinL [] l = l.flatten
  | [] => rfl
  | [p] => by simp [TL.joinL]
  | p :: q :: r => by
    show p ++ ([] ++ TL.joinL [] (q :: r)) = _
    rw [joinL_nil (q :: r)]
    simp
theorem tl_join0 {e : Str} (he : tl e = []) (ys : List Str) : tl (Txt.join e ys) = (ys.map tl).flatten := by
  have h := TL.tl_join e ys
  rw [show Txt.join e ys = Str.join e ys from TL.join_eq e ys]
  exact h.trans (by
    show TL.joinL (tl e) (ys.map tl) = _
    rw [he, joinL_nil])
theorem empty_tl : tl (Str.ofString "") = [] := by decide +kernel
theorem worth_join {e : Str} (he : tl e = []) {ys : List Str} (h : ∀ y ∈ ys, WorthS y) : WorthS (Txt.join e ys) := by
  intro c hc
  rw [tl_join0 he, List.mem_flatten] at hc
  obtain ⟨l, hl, hc⟩ := hc
  obtain ⟨y, hy, rfl⟩ := List.mem_map.mp hl
  exact h y hy c hc
theorem len_join1 {e : Str} (he : tl e = []) {ys : List Str} (h : ∀ y ∈ ys, y.length = 1) : (Txt.join e ys).length = ys.length := by
  rw [len_tl, tl_join0 he]
  induction ys with
  | nil => rfl
  | cons y r ih =>
    rw [List.map_cons, List.flatten_cons, List.length_append, ih (fun z hz => h z (List.mem_cons_of_mem _ hz)), ← len_tl, h y List.mem_cons_self, List.length_cons]
    omega
theorem cut_to (z : Str) {m : Int} (h : 0 ≤ m) : tl (cutS z none (some m)) = (tl z).take m.toNat := by
  obtain ⟨n, rfl⟩ : ∃ n : Nat, m = (n : Int) := ⟨m.toNat, by omega⟩
  show ((z.cps.toList.drop (HT.sIx z.length 0 none)).take (HT.sIx z.length z.length (some (n : Int)) - HT.sIx z.length 0 none)) = _
  rw [HT.sIx_none, HT.sIx_nat, List.drop_zero, Nat.sub_zero, len_tl, Int.toNat_natCast, List.take_eq_take_iff]
  show min (min n (tl z).length) (tl z).length = min n (tl z).length
  omega
theorem worth_cut {z : Str} (h : WorthS z) {m : Int} (h0 : 0 ≤ m) : WorthS (cutS z none (some m)) := by
  intro c hc
  rw [cut_to z h0] at hc
  exact h c (List.mem_of_mem_take hc)
theorem len_cut (z : Str) {m : Int} (h0 : 0 ≤ m) : ((cutS z none (some m)).length : Int) ≤ m := by
  rw [len_tl, cut_to z h0, List.length_take]
  omega
theorem worth_int (i : Int) : WorthS (Str.ofString (toString i)) := by
  intro c hc
  refine Decidable.byContradiction fun hn => ?_
  have h2 : c ≠ 45 ∧ (c < 48 ∨ 57 < c) := by
    unfold Wc at hn
    omega
  exact PyProof.Rows.int_text_free' c h2 i hc
theorem worth_sign {c : Nat} (h : Wc c) : WorthS ⟨#[c]⟩ := by
  intro d hd
  have : d = c := by simpa [tl] using hd
  rw [this]
  exact h
/-- an item of a list that is as long as the draw's bound -/
theorem at_lt {α : Type} {xs : List α} {r : Int} (h0 : 0 ≤ r) (h : r < xs.length) : ∃ v, v ∈ xs ∧ atI xs r = some v := by
  obtain ⟨n, rfl⟩ : ∃ n : Nat, r = (n : Int) := ⟨r.toNat, by omega⟩
  have hn : n < xs.length := by omega
  exact ⟨xs[n], List.getElem_mem hn, atI_nat (List.getElem?_eq_getElem hn)⟩
theorem at_map {α : Type} {xs : List α} (f : α → V) {r : Int} (h0 : 0 ≤ r) (h : r < xs.length) : ∃ v, v ∈ xs ∧ atI (xs.map f) r = some (f v) := by
  obtain ⟨n, rfl⟩ : ∃ n : Nat, r = (n : Int) := ⟨r.toNat, by omega⟩
  have hn : n < xs.length := by omega
  exact ⟨xs[n], List.getElem_mem hn, atI_nat (by rw [List.getElem?_map, List.getElem?_eq_getElem hn]; rfl)⟩
/-- two tests that leave all as it is, joined -/
theorem rd_and {σ : L2.St} {H : Hp} {Q : Bool → Hp → Prop} {t u : TT} {b1 b2 : Bool} (h1 : ∀ R : Bool → Hp → Prop, R b1 H → t σ H R) (h2 : b1 = true → ∀ R : Bool → Hp → Prop, R b2 H → u σ H R) (q : Q (b1 && b2) H) : tAnd t u σ H Q := by
  refine h1 _ ?_
  cases b1 with
  | true => exact iteT (h2 rfl _ q)
  | false => exact iteF q
theorem rd_or {σ : L2.St} {H : Hp} {Q : Bool → Hp → Prop} {t u : TT} {b1 b2 : Bool} (h1 : ∀ R : Bool → Hp → Prop, R b1 H → t σ H R) (h2 : b1 = false → ∀ R : Bool → Hp → Prop, R b2 H → u σ H R) (q : Q (b1 || b2) H) : tOr t u σ H Q := by
  refine h1 _ ?_
  cases b1 with
  | true => exact iteT q
  | false => exact iteF (h2 rfl _ q)
def spCell (K : PySem.W.Frag) : Sp := fun vs H Q _ => ∃ (a : Addr) (ns : List Int) (k : Int), vs = [.ref a, .int k] ∧ SqL K H a (ns.map V.int) ∧ 0 ≤ k ∧ ∀ r : Int, Q (.int r) H
def spBag : Sp := fun vs H Q _ => ∃ (c n : Int), vs = [.int c, .int n] ∧ 0 ≤ n ∧ n ≤ 1000 ∧ ∀ H' b, H b = none → Same H H' → BagAt 0 b H' → Q (.ref b) H'
def spSigns : Sp := fun vs H Q _ => vs = [] ∧ Q (.str lawSigns) H
def spText : Sp := fun vs H Q _ => ∃ (b : Addr) (m : Int) (N : Nat), vs = [.ref b, .int m] ∧ 0 ≤ m ∧ m ≤ 1000 ∧ N < 2 ^ 50 ∧ BagAt N b H ∧
  ∀ (H' : Hp) (s : Str), Chg b H H' → BagAt (N + 2000) b H' → (s.length : Int) ≤ m → WorthS s → Q (.str s) H'
end Sk

namespace Sk
open PySem PySem.Spec PyProof.Rows L2
theorem Chg.mut {b p : Addr} {H H' : Hp} {o : HO} (c : Chg b H H') (n : H p = none) : Chg b H (L2.upd H' p o) := fun a u h e => by
  rw [upd_ne (ne_of_none e n)]
  exact c a u h e
theorem Chg.sql {K : PySem.W.Frag} {b a : Addr} {H H' : Hp} {xs : List V} (c : Chg b H H') (n : a ≠ b) (h : SqL K H a xs) : SqL K H' a xs := by
  rcases h with (h | ⟨o, h⟩) | h
  · exact .inl (.inl (c _ _ n h))
  · exact .inl (.inr ⟨o, c _ _ n h⟩)
  · exact .inr h
theorem BagAt.mut {N : Nat} {b p : Addr} {H' : Hp} {o : HO} (h : BagAt N b H') (n : b ≠ p) : BagAt N b (upd H' p o) := by
  obtain ⟨x, y, z, e, r⟩ := h
  exact ⟨x, y, z, by rw [upd_ne n]; exact e, r⟩
/-! ### readings of draws -/
section
variable {K : PySem.W.Frag} {σ : L2.St} {H : Hp} {Q : VK} {E : XK} {b : Addr} {N : Nat}
theorem rd_draw {te : TE} {i : Nat} {m : Int} (hi : σ[i]? = some (some (.ref b))) (he : ∀ R : VK, R (.int m) H → te σ H R) (m0 : 0 < m) (m1 : m < 2 ^ 256) (hN : N < 2 ^ 60) (hB : BagAt N b H)
    (q : ∀ H' r, Chg b H H' → BagAt (N + 1) b H' → 0 ≤ r → r < m → Q (.int r) H') : tCall spDraw [] E (tCons (tVar i) (tCons te tNil)) σ H Q :=
  ⟨_, hi, he _ ⟨b, m, N, rfl, m0, m1, hN, hB, q⟩⟩
theorem rd_menu {ta : TA} {xs : List V} {i : Nat} {k : Int} (ha : ∀ R : List V → Hp → Prop, R xs H → ta σ H R) (hi : σ[i]? = some (some (.ref b))) (hk : k = xs.length) (h0 : 0 < xs.length) (h1 : xs.length < 1000) (hN : N < 2 ^ 60) (hB : BagAt N b H)
    (q : ∀ H' v, v ∈ xs → Chg b H H' → BagAt (N + 1) b H' → Q v H') : tOp (rIxL K) (tLst ta) (tCall spDraw [] E (tCons (tVar i) (tCons (tC (.int k)) tNil))) σ H Q := by
  refine ha _ ⟨Nat.le_of_lt (small1000 (by omega)), fun p hp => ?_⟩
  refine ⟨_, hi, b, k, N, rfl, by omega, by omega, hN, hB.new hp, fun H1 r c1 B1 r0 r1 => ?_⟩
  obtain ⟨v, hv, e⟩ := at_lt (xs := xs) r0 (by omega)
  have hp1 : H1 p = some (.lst xs) := c1 _ _ (hB.ne hp).symm upd_same
  exact ⟨p, xs, r, v, rfl, rfl, .inl (.inl hp1), e, q H1 v hv ((Chg.new hp).trans c1) B1⟩
theorem wipe1 {σ : L2.St} {k : Nat} {x : V} : wipe ((wipe σ [k]).set k (some x)) [k] = wipe σ [k] := by
  show ((σ.set k none).set k (some x)).set k none = σ.set k none
  rw [List.set_set, List.set_set]
/-- [elt for k in range(n)], elt drawn -/
theorem lc_draws {te : TE} {k n c : Nat} {H1 : Hp} {D : Addr} {Qd : Hp → Prop} (f : V → Prop) (hn : n ≤ 100000) (hD : H1 D = none) (hB : BagAt N b H1)
    (helt : ∀ H2 M x, Chg b H1 H2 → BagAt M b H2 → M < N + c * n → ∀ R : VK, (∀ H3 y, Chg b H2 H3 → BagAt (M + c) b H3 → f y → R y H3) → te ((wipe σ [k]).set k (some x)) H2 R) (hc : 0 < c)
    (hd : ∀ H2 ys, ys.length = n → (∀ y ∈ ys, f y) → Chg b H1 H2 → BagAt (N + c * n) b H2 → H2 D = some (.lst ys) → Qd H2) :
    ∃ W : Nat → Nat → Hp → Prop, (∃ m, W 0 m (upd H1 D (.lst []))) ∧ ∀ i m H, W i m H →
      ((Itr 0 n).stop i H ∧ Qd H) ∨ ((Itr 0 n).go i H ∧ ∃ Nx : Hp → Prop, (∀ H', Nx H' → ∃ m', m' < m ∧ W (i + 1) m' H') ∧ ∀ x H', (Itr 0 n).yld i H x H' → gName k x (wipe σ [k]) H' fun σ2 H2 => wipe σ2 [k] = wipe σ [k] ∧ tYes σ2 H2 fun b H3 =>
        if b = true then te σ2 H3 fun y H4 => ∃ acc, H4 D = some (.lst acc) ∧ acc.length < sizeLine ∧ Nx (upd H4 D (.lst (acc ++ [y]))) else Nx H3) := by
  have nb := hB.ne hD
  refine lc_range (lo := 0) (n := n) (fun i H2 => ∃ ys, ys.length = i ∧ (∀ y ∈ ys, f y) ∧ Chg b H1 H2 ∧ BagAt (N + c * i) b H2 ∧ H2 D = some (.lst ys)) ?_ ?_ ?_
  · exact ⟨[], rfl, (fun _ h => nomatch h), .new hD, hB.new hD, upd_same⟩
  · rintro i H2 hi ⟨ys, rfl, hf, c2, B2, e2⟩
    refine ⟨wipe1, ?_⟩
    show te _ H2 _
    have hm : c * ys.length < c * n := Nat.mul_lt_mul_of_pos_left hi hc
    refine helt H2 _ _ c2 B2 (by omega) _ fun H3 y c3 B3 hy => ?_
    have e3 : H3 D = some (.lst ys) := c3 _ _ nb.symm e2
    refine ⟨ys, e3, Evl.sz_lt (by omega), ys ++ [y], by simp, fun z hz => ?_, (c2.trans c3).mut hD, ?_, upd_same⟩
    · rcases List.mem_append.mp hz with h | h
      · exact hf z h
      · rw [List.mem_singleton.mp h]; exact hy
    · rw [Nat.mul_succ, ← Nat.add_assoc]
      exact B3.mut nb
  · rintro H2 ⟨ys, e, hf, c2, B2, e2⟩
    exact hd H2 ys e hf c2 B2 e2
end
/-- a list of texts -/
theorem strs_of {ys : List V} {f : Str → Prop} (h : ∀ y ∈ ys, ∃ s, y = .str s ∧ f s) : ∃ zs : List Str, ys = zs.map V.str ∧ ∀ z ∈ zs, f z := by
  induction ys with
  | nil => exact ⟨[], rfl, fun _ h => nomatch h⟩
  | cons y r ih =>
    obtain ⟨zs, rfl, hz⟩ := ih fun z hz => h z (List.mem_cons_of_mem _ hz)
    obtain ⟨s, rfl, hs⟩ := h y List.mem_cons_self
    refine ⟨s :: zs, rfl, fun z hm => ?_⟩
    rcases List.mem_cons.mp hm with rfl | hm
    · exact hs
    · exact hz z hm
theorem sum_le {zs : List Str} {c : Nat} (h : ∀ z ∈ zs, z.length ≤ c) : (zs.map (·.length)).sum ≤ c * zs.length := by
  induction zs with
  | nil => simp
  | cons z r ih =>
    rw [List.map_cons, List.sum_cons, List.length_cons, Nat.mul_succ]
    have h1 := ih fun y hy => h y (List.mem_cons_of_mem _ hy)
    have h2 := h z List.mem_cons_self
    omega
end Sk
namespace Sk
open PySem PySem.Spec PyProof.Rows L2
/-! ### names, keys, references -/
def NameS (s : Str) : Prop := 1 ≤ s.length ∧ s.length ≤ 8 ∧ ∀ c ∈ tl s, 97 ≤ c ∧ c ≤ 122
def KeyS (s : Str) : Prop := 1 ≤ s.length ∧ s.length ≤ 40 ∧ WorthS s
def spName : Sp := fun vs H Q _ => ∃ (b : Addr) (N : Nat), vs = [.ref b] ∧ N < 2 ^ 50 ∧ BagAt N b H ∧
  ∀ (H' : Hp) (s : Str), Chg b H H' → BagAt (N + 20) b H' → NameS s → Q (.str s) H'
def spKey : Sp := fun vs H Q _ => ∃ (b : Addr) (N : Nat), vs = [.ref b] ∧ N < 2 ^ 49 ∧ BagAt N b H ∧
  ∀ (H' : Hp) (s : Str), Chg b H H' → BagAt (N + 2001) b H' → KeyS s → Q (.str s) H'
/-- a tuple of a name and a tuple of keys -/
def RefAt (H : Hp) (v : V) (n : Str) (ks : List Str) : Prop := ∃ a k, v = .ref a ∧ H a = some (.tup [.str n, .ref k]) ∧ H k = some (.tup (ks.map V.str))
structure RefS (n : Str) (ks : List Str) : Prop where
  name : NameS n
  len : ks.length ≤ 6
  keys : ∀ k ∈ ks, KeyS k
def spRef : Sp := fun vs H Q _ => ∃ (b : Addr) (N : Nat), vs = [.ref b] ∧ N < 2 ^ 48 ∧ BagAt N b H ∧
  ∀ (H' : Hp) (v : V) (n : Str) (ks : List Str), Chg b H H' → BagAt (N + 20000) b H' → RefAt H' v n ks → RefS n ks → Q v H'
theorem RefAt.same {H H' : Hp} {v : V} {n : Str} {ks : List Str} (h : RefAt H v n ks) (s : Same H H') : RefAt H' v n ks := by
  obtain ⟨a, k, rfl, h1, h2⟩ := h
  exact ⟨a, k, rfl, s _ _ h1, s _ _ h2⟩
theorem RefAt.chg {H H' : Hp} {b : Addr} {N : Nat} {v : V} {n : Str} {ks : List Str} (h : RefAt H v n ks) (c : Chg b H H') (B : BagAt N b H) : RefAt H' v n ks := by
  obtain ⟨a, k, rfl, h1, h2⟩ := h
  exact ⟨a, k, rfl, c _ _ (B.neT h1) h1, c _ _ (B.neT h2) h2⟩
theorem RefAt.new {H : Hp} {p : Addr} {o : HO} {v : V} {n : Str} {ks : List Str} (h : RefAt H v n ks) (e : H p = none) : RefAt (upd H p o) v n ks := h.same (same_new e)
end Sk

namespace Sk
open PySem PySem.Spec PyProof.Rows L2
open PySem.W (Datum Tup)
/-! ### == of data -/
def rEqP (K : PySem.W.Frag) : R2 := fun x y H Q => ∃ d e, Dp K H x d ∧ Dp K H y e ∧ d.plain = true ∧ e.plain = true ∧ d.depth ≤ 64 ∧ Q (.bl (PyData.eqv d e)) H
def rNeP (K : PySem.W.Frag) : R2 := fun x y H Q => ∃ d e, Dp K H x d ∧ Dp K H y e ∧ d.plain = true ∧ e.plain = true ∧ d.depth ≤ 64 ∧ Q (.bl (!PyData.eqv d e)) H
section
variable {X : Cx}
theorem k_eqP (K : PySem.W.Frag) (hu : X.A.units + 64 < cLine) (e : X.K = K := by rfl) : OpR X (compareOp .Eq) (rEqP K) := by
  subst e
  intro pins s σ H x y v u Q I rx ry h
  obtain ⟨d, e, hd, he, sd, se, dl, q⟩ := h
  obtain ⟨as, r1⟩ := Dp.reads I d x v hd rx
  obtain ⟨bs, r2⟩ := Dp.reads I e y u he ry
  exact PySem.SeqAt.eq_plain r1 r2 sd se (by omega) ⟨.bl _, H, I, rfl, q⟩
theorem k_neP (K : PySem.W.Frag) (hu : X.A.units + 64 < cLine) (e : X.K = K := by rfl) : OpR X (compareOp .NotEq) (rNeP K) := by
  subst e
  intro pins s σ H x y v u Q I rx ry h
  obtain ⟨d, e, hd, he, sd, se, dl, q⟩ := h
  obtain ⟨as, r1⟩ := Dp.reads I d x v hd rx
  obtain ⟨bs, r2⟩ := Dp.reads I e y u he ry
  exact PySem.SeqAt.ne_plain r1 r2 sd se (by omega) ⟨.bl _, H, I, rfl, q⟩
end
/-- a value that bears a datum -/
abbrev DV {α : Type} [DecidableEq α] [Datum α] (K : PySem.W.Frag) (H : Hp) (v : V) (x : α) : Prop := Dp K H v (Datum.toD x)
section
variable {α : Type} [DecidableEq α] [Datum α] {K : PySem.W.Frag} {H : Hp} {v w : V} {x y : α} {Q : VK}
theorem rd_eqP (h1 : DV K H v x) (h2 : DV K H w y) (hd : Datum.depth α ≤ 64) (q : Q (.bl (decide (x = y))) H) : rEqP K v w H Q :=
  ⟨_, _, h1, h2, Datum.plain x, Datum.plain y, Nat.le_trans (Datum.depth_le x) hd, by rw [Datum.eqv]; exact q⟩
theorem rd_neP (h1 : DV K H v x) (h2 : DV K H w y) (hd : Datum.depth α ≤ 64) (q : Q (.bl (!decide (x = y))) H) : rNeP K v w H Q :=
  ⟨_, _, h1, h2, Datum.plain x, Datum.plain y, Nat.le_trans (Datum.depth_le x) hd, by rw [Datum.eqv]; exact q⟩
theorem dv_all {f : α → V} : ∀ {xs : List α}, (∀ x ∈ xs, DV K H (f x) x) → DpAll K H (xs.map f) (xs.map Datum.toD)
  | [], _ => .nil
  | x :: r, h => .cons (h x List.mem_cons_self) (dv_all fun y hy => h y (List.mem_cons_of_mem _ hy))
theorem dv_lst {f : α → V} {a : Addr} {xs : List α} (h : SqL K H a (xs.map f)) (hx : ∀ x ∈ xs, DV K H (f x) x) : DV K H (.ref a) xs := Dp.lst h (dv_all hx)
theorem dv_tup {f : α → V} {a : Addr} {xs : List α} (h : SqT K H a (xs.map f)) (hx : ∀ x ∈ xs, DV K H (f x) x) : DV K H (.ref a) (Tup.mk xs) := Dp.tup h (dv_all hx)
end
theorem dv_strs {K : PySem.W.Frag} {H : Hp} {a : Addr} {ks : List Str} (h : SqT K H a (ks.map V.str)) : DV K H (.ref a) (Tup.mk ks) := dv_tup h fun x _ => Dp.str x
theorem dv_ints {K : PySem.W.Frag} {H : Hp} {a : Addr} {ks : List Int} (h : SqL K H a (ks.map V.int)) : DV K H (.ref a) ks := dv_lst h fun x _ => Dp.int x
theorem dv_bools {K : PySem.W.Frag} {H : Hp} {a : Addr} {ks : List Bool} (h : SqL K H a (ks.map V.bl)) : DV K H (.ref a) ks := dv_lst h fun x _ => Dp.bl x
/-! ### stems -/
def stemB (n1 : Str) (k1 : List Str) (n2 : Str) (k2 : List Str) : Bool := decide (n1 = n2) && decide (k2.take k1.length = k1)
def meetB (n1 : Str) (k1 : List Str) (n2 : Str) (k2 : List Str) : Bool := stemB n1 k1 n2 k2 || stemB n2 k2 n1 k1
def spRel (f : Str → List Str → Str → List Str → Bool) : Sp := fun vs H Q _ => ∃ v1 v2 n1 k1 n2 k2, vs = [v1, v2] ∧ RefAt H v1 n1 k1 ∧ RefAt H v2 n2 k2 ∧ k1.length ≤ 1000 ∧ k2.length ≤ 1000 ∧
  ∀ H', Same H H' → Q (.bl (f n1 k1 n2 k2)) H'
theorem cutV_to {xs : List V} {n : Nat} : cutV xs none (some (n : Int)) = xs.take n := by
  unfold cutV
  rw [HT.sIx_none, HT.sIx_nat, List.drop_zero, Nat.sub_zero, List.take_eq_take_iff]
  omega
theorem cutV_from {xs : List V} {n : Nat} : cutV xs (some (n : Int)) none = xs.drop n := by
  unfold cutV
  rw [HT.sIx_none, HT.sIx_nat]
  by_cases h : n ≤ xs.length
  · rw [Nat.min_eq_left h]
    exact List.take_of_length_le (by rw [List.length_drop]; omega)
  · rw [List.drop_eq_nil_of_le (by omega : xs.length ≤ min n xs.length), List.drop_eq_nil_of_le (by omega)]
    exact List.take_nil
/-- t[:n] of a tuple: some tuple of its first n -/
theorem rd_takeT {K : PySem.W.Frag} {H : Hp} {a : Addr} {xs : List V} {n : Nat} {Q : VK} (h : SqT K H a xs) (q : ∀ p H', Same H H' → SqT K H' p (xs.take n) → Q (.ref p) H') : rSlA K (.ref a) none (some (n : Int)) H Q := by
  refine ⟨a, xs, rfl, h, fun ⟨_, e⟩ => q a H (.refl H) ?_, fun _ p hp => q p _ (same_new hp) ?_⟩
  · rw [HT.sIx_nat] at e
    rw [List.take_of_length_le (by omega)]
    exact h
  · rw [cutV_to]
    exact .inl (.inl upd_same)
theorem rd_dropT {K : PySem.W.Frag} {H : Hp} {a : Addr} {xs : List V} {n : Nat} {Q : VK} (h : SqT K H a xs) (q : ∀ p H', Same H H' → SqT K H' p (xs.drop n) → Q (.ref p) H') : rSlA K (.ref a) (some (n : Int)) none H Q := by
  refine ⟨a, xs, rfl, h, fun ⟨e, _⟩ => q a H (.refl H) ?_, fun _ p hp => q p _ (same_new hp) ?_⟩
  · rw [HT.sIx_nat] at e
    by_cases hn : n = 0
    · rw [hn, List.drop_zero]
      exact h
    · have h0 : xs = [] := List.length_eq_zero_iff.mp (by omega)
      subst h0
      rw [List.drop_nil]
      exact h
  · rw [cutV_from]
    exact .inl (.inl upd_same)
end Sk
namespace Sk
open PySem PySem.Spec PyProof.Rows L2
section
variable {K : PySem.W.Frag} {σ : L2.St}
theorem same_mut {H H' : Hp} {p : Addr} {o : HO} (s : Same H H') (n : H p = none) : Same H (upd H' p o) := fun a u e => by
  rw [upd_ne (ne_of_none e n)]
  exact s a u e
/-- [elt for k in range(n) if ..], nothing but new things made -/
theorem lc_pure_range {te : TE} {tt : TT} {k n : Nat} {H1 : Hp} {D : Addr} {Qd : Hp → Prop} (p : Nat → Bool) (f : Nat → V) (hn : n ≤ 100000) (hD : H1 D = none)
    (ht : ∀ i H2, i < n → Same H1 H2 → ∀ R : Bool → Hp → Prop, (∀ H3, Same H2 H3 → R (p i) H3) → tt ((wipe σ [k]).set k (some (.int (0 + (i : Int))))) H2 R)
    (he : ∀ i H2, i < n → p i = true → Same H1 H2 → ∀ R : VK, (∀ H3, Same H2 H3 → R (f i) H3) → te ((wipe σ [k]).set k (some (.int (0 + (i : Int))))) H2 R)
    (hd : ∀ H2, Same H1 H2 → H2 D = some (.lst (((List.range n).filter p).map f)) → Qd H2) :
    ∃ W : Nat → Nat → Hp → Prop, (∃ m, W 0 m (upd H1 D (.lst []))) ∧ ∀ i m H, W i m H →
      ((Itr 0 n).stop i H ∧ Qd H) ∨ ((Itr 0 n).go i H ∧ ∃ Nx : Hp → Prop, (∀ H', Nx H' → ∃ m', m' < m ∧ W (i + 1) m' H') ∧ ∀ x H', (Itr 0 n).yld i H x H' → gName k x (wipe σ [k]) H' fun σ2 H2 => wipe σ2 [k] = wipe σ [k] ∧ tt σ2 H2 fun b H3 =>
        if b = true then te σ2 H3 fun y H4 => ∃ acc, H4 D = some (.lst acc) ∧ acc.length < sizeLine ∧ Nx (upd H4 D (.lst (acc ++ [y]))) else Nx H3) := by
  refine lc_range (lo := 0) (n := n) (fun i H2 => Same H1 H2 ∧ H2 D = some (.lst (((List.range i).filter p).map f))) ?_ ?_ ?_
  · exact ⟨same_new hD, upd_same⟩
  · rintro i H2 hi ⟨s2, e2⟩
    refine ⟨wipe1, ?_⟩
    refine ht i H2 hi s2 _ fun H3 s3 => ?_
    have e3 := s3 _ _ e2
    cases hp : p i with
    | true =>
      show (if true = true then _ else _)
      rw [if_pos rfl]
      refine he i H3 hi hp (s2.trans s3) _ fun H4 s4 => ?_
      refine ⟨_, s4 _ _ e3, Evl.sz_lt ?_, same_mut ((s2.trans s3).trans s4) hD, ?_⟩
      · rw [List.length_map]
        have := List.length_filter_le p (List.range i)
        rw [List.length_range] at this
        omega
      · rw [upd_same, List.range_succ, List.filter_append, List.filter_cons, hp, if_pos rfl, List.filter_nil, List.map_append]
        rfl
    | false =>
      show (if false = true then _ else _)
      rw [if_neg Bool.false_ne_true]
      refine ⟨s2.trans s3, ?_⟩
      rw [e3, List.range_succ, List.filter_append, List.filter_cons, hp, if_neg Bool.false_ne_true, List.filter_nil, List.append_nil]
  · rintro H2 ⟨s2, e2⟩
    exact hd H2 s2 e2
/-- [elt for x in xs if ..] -/
theorem lc_pure_list {te : TE} {tt : TT} {k : Nat} {H1 : Hp} {D a : Addr} {xs : List V} {Qd : Hp → Prop} (p : V → Bool) (f : V → V) (hn : xs.length ≤ 100000) (hD : H1 D = none) (hS : SqL K H1 a xs)
    (ht : ∀ x H2, x ∈ xs → Same H1 H2 → ∀ R : Bool → Hp → Prop, (∀ H3, Same H2 H3 → R (p x) H3) → tt ((wipe σ [k]).set k (some x)) H2 R)
    (he : ∀ x H2, x ∈ xs → p x = true → Same H1 H2 → ∀ R : VK, (∀ H3, Same H2 H3 → R (f x) H3) → te ((wipe σ [k]).set k (some x)) H2 R)
    (hd : ∀ H2, Same H1 H2 → H2 D = some (.lst ((xs.filter p).map f)) → Qd H2) :
    ∃ W : Nat → Nat → Hp → Prop, (∃ m, W 0 m (upd H1 D (.lst []))) ∧ ∀ i m H, W i m H →
      ((Itl K a).stop i H ∧ Qd H) ∨ ((Itl K a).go i H ∧ ∃ Nx : Hp → Prop, (∀ H', Nx H' → ∃ m', m' < m ∧ W (i + 1) m' H') ∧ ∀ x H', (Itl K a).yld i H x H' → gName k x (wipe σ [k]) H' fun σ2 H2 => wipe σ2 [k] = wipe σ [k] ∧ tt σ2 H2 fun b H3 =>
        if b = true then te σ2 H3 fun y H4 => ∃ acc, H4 D = some (.lst acc) ∧ acc.length < sizeLine ∧ Nx (upd H4 D (.lst (acc ++ [y]))) else Nx H3) := by
  refine lc_list (K := K) (a := a) (xs := xs) (fun i H2 => Same H1 H2 ∧ H2 D = some (.lst (((xs.take i).filter p).map f))) ?_ ?_ ?_ ?_
  · exact ⟨same_new hD, upd_same⟩
  · exact fun i H2 _ h => h.1.seq hS
  · rintro i x H2 hx ⟨s2, e2⟩
    have hm : x ∈ xs := List.mem_of_getElem? hx
    refine ⟨wipe1, ?_⟩
    refine ht x H2 hm s2 _ fun H3 s3 => ?_
    have e3 := s3 _ _ e2
    cases hp : p x with
    | true =>
      show (if true = true then _ else _)
      rw [if_pos rfl]
      refine he x H3 hm hp (s2.trans s3) _ fun H4 s4 => ?_
      refine ⟨_, s4 _ _ e3, Evl.sz_lt ?_, same_mut ((s2.trans s3).trans s4) hD, ?_⟩
      · rw [List.length_map]
        have := List.length_filter_le p (xs.take i)
        rw [List.length_take] at this
        have hi := (List.getElem?_eq_some_iff.mp hx).1
        omega
      · rw [upd_same, List.take_add_one, hx, List.filter_append]
        show _ = some (HO.lst ((_ ++ List.filter p [x]).map f))
        rw [List.filter_cons, hp, if_pos rfl, List.filter_nil, List.map_append]
        rfl
    | false =>
      show (if false = true then _ else _)
      rw [if_neg Bool.false_ne_true]
      refine ⟨s2.trans s3, ?_⟩
      rw [e3, List.take_add_one, hx, List.filter_append]
      show _ = some (HO.lst ((_ ++ List.filter p [x]).map f))
      rw [List.filter_cons, hp, if_neg Bool.false_ne_true, List.filter_nil, List.append_nil]
  · rintro H2 ⟨s2, e2⟩
    rw [List.take_length] at e2
    exact hd H2 s2 e2
end
end Sk
namespace Sk
open PySem PySem.Spec PyProof.Rows L2
section
variable {K : PySem.W.Frag} {H : Hp} {a b : Addr} {xs ys : List V} {n : Nat} {Q : VK}
theorem rd_takeH (h : H a = some (.tup xs)) (q : ∀ p H', Same H H' → H' p = some (.tup (xs.take n)) → Q (.ref p) H') : rSlA K (.ref a) none (some (n : Int)) H Q := by
  refine ⟨a, xs, rfl, .inl (.inl h), fun ⟨_, e⟩ => q a H (.refl H) ?_, fun _ p hp => q p _ (same_new hp) ?_⟩
  · rw [HT.sIx_nat] at e
    rw [List.take_of_length_le (by omega)]
    exact h
  · rw [cutV_to]
    exact upd_same
theorem rd_dropH (h : H a = some (.tup xs)) (q : ∀ p H', Same H H' → H' p = some (.tup (xs.drop n)) → Q (.ref p) H') : rSlA K (.ref a) (some (n : Int)) none H Q := by
  refine ⟨a, xs, rfl, .inl (.inl h), fun ⟨e, _⟩ => q a H (.refl H) ?_, fun _ p hp => q p _ (same_new hp) ?_⟩
  · rw [HT.sIx_nat] at e
    by_cases hn : n = 0
    · rw [hn, List.drop_zero]
      exact h
    · have h0 : xs = [] := List.length_eq_zero_iff.mp (by omega)
      subst h0
      rw [List.drop_nil]
      exact h
  · rw [cutV_from]
    exact upd_same
theorem rd_dropI {j : Int} (hj : j = (n : Int)) (h : H a = some (.tup xs)) (q : ∀ p H', Same H H' → H' p = some (.tup (xs.drop n)) → Q (.ref p) H') : rSlA K (.ref a) (some j) none H Q := by
  subst hj
  exact rd_dropH h q
theorem rd_takeI {j : Int} (hj : j = (n : Int)) (h : H a = some (.tup xs)) (q : ∀ p H', Same H H' → H' p = some (.tup (xs.take n)) → Q (.ref p) H') : rSlA K (.ref a) none (some j) H Q := by
  subst hj
  exact rd_takeH h q
theorem rd_catH (h : H a = some (.tup xs)) (h2 : H b = some (.tup ys)) (l : xs.length + ys.length ≤ 100000) (q : ∀ p H', Same H H' → H' p = some (.tup (xs ++ ys)) → Q (.ref p) H') : rCatA K (.ref a) (.ref b) H Q := by
  refine ⟨a, b, xs, ys, rfl, rfl, .inl (.inl h), .inl (.inl h2), Evl.sz_of l, fun e => ?_, fun _ e => ?_, fun _ _ p hp => q p _ (same_new hp) upd_same⟩
  · subst e
    exact q b H (.refl H) h2
  · subst e
    exact q a H (.refl H) (by rw [List.append_nil]; exact h)
end
end Sk
namespace Sk
open PySem PySem.Spec PyProof.Rows L2
/-- (n, k) made of a name and a tuple of keys -/
theorem rd_ref {H : Hp} {k : Addr} {n : Str} {ks : List Str} {Q : VK} (h : H k = some (.tup (ks.map V.str))) (q : ∀ v H', Same H H' → RefAt H' v n ks → Q v H') :
    [V.str n, V.ref k].length ≤ sizeLine ∧ ∀ p, H p = none → Q (.ref p) (upd H p (.tup [.str n, .ref k])) :=
  ⟨Evl.sz_of (by show 2 ≤ 100000; decide), fun p hp => q _ _ (same_new hp) ⟨p, k, rfl, upd_same, same_new hp _ _ h⟩⟩
theorem keys_app {xs ys : List Str} (hx : ∀ k ∈ xs, KeyS k) (hy : ∀ k ∈ ys, KeyS k) : ∀ k ∈ xs ++ ys, KeyS k := fun k h => by
  rcases List.mem_append.mp h with h | h
  · exact hx k h
  · exact hy k h
def spBeside : Sp := fun vs H Q _ => ∃ (b : Addr) (v : V) (N : Nat) (n : Str) (ks : List Str), vs = [.ref b, v] ∧ N < 2 ^ 47 ∧ BagAt N b H ∧ RefAt H v n ks ∧ RefS n ks ∧
  ∀ (H' : Hp) (v : V) (n : Str) (ks : List Str), Chg b H H' → BagAt (N + 40000) b H' → RefAt H' v n ks → RefS n ks → Q v H'
end Sk
namespace Sk
open PySem PySem.Spec PyProof.Rows L2
theorem same_chg {b : Addr} {H0 H1 H2 : Hp} (s : Same H0 H1) (c : Chg b H1 H2) (n : H0 b = none) : Same H0 H2 := fun a o e => c a o (ne_of_none e n) (s a o e)
theorem same_upd {p : Addr} {H0 H1 : Hp} {o : HO} (s : Same H0 H1) (n : H0 p = none) : Same H0 (upd H1 p o) := same_mut s n
theorem RefAt.updL {H : Hp} {p : Addr} {o : HO} {xs : List V} {v : V} {n : Str} {ks : List Str} (h : RefAt H v n ks) (e : H p = some (.lst xs)) : RefAt (upd H p o) v n ks := by
  obtain ⟨a, k, rfl, h1, h2⟩ := h
  have n1 : a ≠ p := ne_of h1 e (by intro z; cases z)
  have n2 : k ≠ p := ne_of h2 e (by intro z; cases z)
  exact ⟨a, k, rfl, by rw [upd_ne n1]; exact h1, by rw [upd_ne n2]; exact h2⟩
def AllRef (H : Hp) (vs : List V) : Prop := ∀ v ∈ vs, ∃ n ks, RefAt H v n ks ∧ RefS n ks
theorem AllRef.map {H H' : Hp} {vs : List V} (h : AllRef H vs) (f : ∀ v n ks, RefAt H v n ks → RefAt H' v n ks) : AllRef H' vs := fun v hv => by
  obtain ⟨n, ks, r, s⟩ := h v hv
  exact ⟨n, ks, f v n ks r, s⟩
def spLaw (K : PySem.W.Frag) : Sp := fun vs H Q _ => ∃ (a : Addr) (ns : List Int), vs = [.ref a] ∧ SqL K H a (ns.map V.int) ∧ ns.length ≤ 63 ∧ (∀ z ∈ ns, Builtin.Int.intBits z ≤ 1048576) ∧ ∀ H', Q (.bl true) H'
theorem spLaw_start {K : PySem.W.Frag} {H : Hp} {a : Addr} {ns : List Int} (hl : ns.length ≤ 63) (hb : ∀ z ∈ ns, Builtin.Int.intBits z ≤ 1048576) (hO : Only H) (hS : SqL K H a (ns.map V.int)) : spLaw K [.ref a] H (fun v _ => v = .bl true) fun _ _ _ => False :=
  ⟨a, ns, rfl, hS, hl, hb, fun _ => rfl⟩
theorem turns_of (n m : Int) (h1 : 1 ≤ m) (h2 : m ≤ 1000) : ∃ k : Int, (if (if n < m then n else m) > 1 then (if n < m then n else m) else 1) = k ∧ 1 ≤ k ∧ k ≤ m := by
  refine ⟨_, rfl, ?_, ?_⟩ <;> repeat' split
  all_goals omega
/-- isinstance(b, bool) of a truth -/
theorem rd_isBool {K : PySem.W.Frag} {b : Bool} {H : Hp} {Q : VK} (q : Q (.bl true) H) : rIsi K [.bl b, .ty "bool"] H Q :=
  ⟨_, _, _, _, true, rfl, .ty "bool", .base (.bl b), kit_ty (by decide +kernel), q⟩
end Sk

namespace Sk
open PySem PySem.Spec PyProof.Rows L2
open PySem.NumText (AllDigits digitsVal digitsVal_snoc digitsVal_pos toDigits_digitsVal takeWhile_all)
/-! ### numbers of worths, on rows of signs -/
def isMark (c : Nat) : Bool := c == 43 || c == 45
def isFig (c : Nat) : Bool := decide (48 ≤ c) && decide (c ≤ 57)
theorem isFig_iff {c : Nat} : isFig c = true ↔ 48 ≤ c ∧ c ≤ 57 := by unfold isFig; rw [Bool.and_eq_true, decide_eq_true_eq, decide_eq_true_eq]
theorem isMark_iff {c : Nat} : isMark c = true ↔ c = 43 ∨ c = 45 := by unfold isMark; rw [Bool.or_eq_true, beq_iff_eq, beq_iff_eq]
def marksOf (l : List Nat) : List Nat := l.takeWhile isMark
def figsOf (l : List Nat) : List Nat := (l.dropWhile isMark).takeWhile isFig
def numL (l : List Nat) : Int := if (marksOf l).count 45 % 2 = 1 then 0 - (digitsVal (figsOf l) : Int) else (digitsVal (figsOf l) : Int)
def isNumF (l f : List Nat) : Bool := if f = [] ∨ (f.takeWhile isFig).length < f.length then false else (l == [48] || !(f.head? == some 48))
def isNumL (l : List Nat) : Bool := isNumF l (if l.take 1 = [45] then l.drop 1 else l)
theorem isNumF_of {l f : List Nat} (h1 : ¬ (f = [] ∨ (f.takeWhile isFig).length < f.length)) (h2 : l = [48] ∨ f.head? ≠ some 48) : isNumF l f = true := by
  unfold isNumF
  rw [if_neg h1]
  rcases h2 with h | h
  · rw [h]; rfl
  · rw [beq_eq_false_iff_ne.mpr h, Bool.not_false, Bool.or_true]
theorem isNumF_to {l f : List Nat} (h : isNumF l f = true) : ¬ (f = [] ∨ (f.takeWhile isFig).length < f.length) ∧ (l = [48] ∨ f.head? ≠ some 48) := by
  unfold isNumF at h
  split at h
  · cases h
  · rename_i hw
    refine ⟨hw, ?_⟩
    rw [Bool.or_eq_true, beq_iff_eq, Bool.not_eq_true', beq_eq_false_iff_ne] at h
    exact h
def decL (n : Nat) : List Nat := (Nat.toDigits 10 n).map Char.toNat
def intL (n : Int) : List Nat := if n < 0 then 45 :: decL n.natAbs else decL n.natAbs
theorem digChar {d : Nat} (h : d < 10) : (Nat.digitChar d).toNat = 48 + d := by
  have key : ∀ d < 10, (Nat.digitChar d).toNat = 48 + d := by decide
  exact key d h
theorem decL_lt {n : Nat} (h : n < 10) : decL n = [48 + n] := by
  unfold decL
  rw [Nat.toDigits_of_lt_base h, List.map_singleton, digChar h]
theorem decL_ge {n : Nat} (h : 10 ≤ n) : decL n = decL (n / 10) ++ [48 + n % 10] := by
  unfold decL
  rw [Nat.toDigits_of_base_le (by decide) h, List.map_append, List.map_singleton, digChar (Nat.mod_lt _ (by decide))]
theorem decL_ne (n : Nat) : decL n ≠ [] := by
  by_cases h : n < 10
  · rw [decL_lt h]; exact List.cons_ne_nil _ _
  · rw [decL_ge (by omega)]; exact List.append_ne_nil_of_right_ne_nil _ (List.cons_ne_nil _ _)
theorem decL_digits : ∀ n : Nat, AllDigits (decL n) := by
  intro n
  induction n using Nat.strongRecOn with
  | ind n ih =>
    by_cases h : n < 10
    · rw [decL_lt h]
      intro c hc
      rw [List.mem_singleton.mp hc]
      omega
    · rw [decL_ge (by omega)]
      intro c hc
      rcases List.mem_append.mp hc with hc | hc
      · exact ih (n / 10) (by omega) c hc
      · rw [List.mem_singleton.mp hc]
        omega
theorem decL_val : ∀ n : Nat, digitsVal (decL n) = n := by
  intro n
  induction n using Nat.strongRecOn with
  | ind n ih =>
    by_cases h : n < 10
    · rw [decL_lt h]
      show 0 * 10 + (48 + n - 48) = n
      omega
    · rw [decL_ge (by omega), digitsVal_snoc, ih (n / 10) (by omega)]
      omega
/-- the first figure is no nought, but of nought itself -/
theorem decL_head : ∀ n : Nat, n = 0 ∨ ∃ c r, decL n = c :: r ∧ 49 ≤ c := by
  intro n
  induction n using Nat.strongRecOn with
  | ind n ih =>
    by_cases h : n < 10
    · by_cases h0 : n = 0
      · exact .inl h0
      · exact .inr ⟨48 + n, [], decL_lt h, by omega⟩
    · rcases ih (n / 10) (by omega) with e | ⟨c, r, e, hc⟩
      · omega
      · exact .inr ⟨c, r ++ [48 + n % 10], by rw [decL_ge (by omega), e]; rfl, hc⟩
theorem mem_takeWhile {p : Nat → Bool} {c : Nat} : ∀ {l : List Nat}, c ∈ l.takeWhile p → p c = true
  | [], h => nomatch h
  | d :: r, h => by
    cases hd : p d with
    | false => rw [List.takeWhile_cons_of_neg (by rw [hd]; exact Bool.false_ne_true)] at h; cases h
    | true =>
      rw [List.takeWhile_cons_of_pos hd] at h
      rcases List.mem_cons.mp h with rfl | h
      · exact hd
      · exact mem_takeWhile h
theorem takeWhile_all' {p : Nat → Bool} {l : List Nat} (h : ∀ c ∈ l, p c = true) : l.takeWhile p = l := takeWhile_all h
theorem figs_all {l : List Nat} (h : AllDigits l) : l.takeWhile isFig = l := takeWhile_all fun c hc => isFig_iff.mpr (h c hc)
theorem dropWhile_head {p : Nat → Bool} {c : Nat} {r : List Nat} (h : p c = false) : (c :: r).dropWhile p = c :: r := by
  rw [List.dropWhile_cons_of_neg (by rw [h]; exact Bool.false_ne_true)]
theorem noMark {c : Nat} (h : 48 ≤ c ∧ c ≤ 57) : isMark c = false := by
  cases e : isMark c with
  | false => rfl
  | true => have := isMark_iff.mp e; omega
theorem num_digits {l : List Nat} (h : AllDigits l) : numL l = (digitsVal l : Int) := by
  cases l with
  | nil => rfl
  | cons c r =>
    have hm := noMark h.head
    unfold numL marksOf figsOf
    rw [List.takeWhile_cons_of_neg (by rw [hm]; exact Bool.false_ne_true), dropWhile_head hm, figs_all h]
    rfl
theorem num_minus {l : List Nat} (h : AllDigits l) : numL (45 :: l) = 0 - (digitsVal l : Int) := by
  have hm : isMark 45 = true := rfl
  have hn : (45 :: l).takeWhile isMark = [45] ∧ (45 :: l).dropWhile isMark = l := by
    rw [List.takeWhile_cons_of_pos hm, List.dropWhile_cons_of_pos hm]
    cases l with
    | nil => exact ⟨rfl, rfl⟩
    | cons c r =>
      have hm := noMark h.head
      rw [List.takeWhile_cons_of_neg (by rw [hm]; exact Bool.false_ne_true), dropWhile_head hm]
      exact ⟨rfl, rfl⟩
  unfold numL marksOf figsOf
  rw [hn.1, hn.2, figs_all h]
  rfl
theorem num_int (n : Int) : numL (intL n) = n := by
  unfold intL
  split
  · rw [num_minus (decL_digits _), decL_val]
    omega
  · rw [num_digits (decL_digits _), decL_val]
    omega
theorem dig_head45 {l : List Nat} (h : AllDigits l) : l.take 1 ≠ [45] := by
  cases l with
  | nil => exact fun e => nomatch e
  | cons c r =>
    intro e
    have e1 : c = 45 := (List.cons.inj e).1
    have := h.head
    omega
theorem isNum_int (n : Int) : isNumL (intL n) = true := by
  have hd := decL_digits n.natAbs
  have hne := decL_ne n.natAbs
  have hw : ¬ (decL n.natAbs = [] ∨ ((decL n.natAbs).takeWhile isFig).length < (decL n.natAbs).length) := by
    rw [figs_all hd]
    intro h
    rcases h with h | h
    · exact hne h
    · omega
  unfold intL isNumL
  split
  · rename_i hn
    rw [if_pos (show List.take 1 (45 :: decL n.natAbs) = [45] from rfl)]
    refine isNumF_of hw ?_
    rcases decL_head n.natAbs with e | ⟨c, r, e, hc⟩
    · omega
    · refine .inr ?_
      rw [List.drop_succ_cons, List.drop_zero, e]
      exact fun z => by have := Option.some.inj z; omega
  · rw [if_neg (dig_head45 hd)]
    refine isNumF_of hw ?_
    rcases decL_head n.natAbs with e | ⟨c, r, e, hc⟩
    · rw [e]
      exact .inl (decL_lt (by decide))
    · refine .inr ?_
      rw [e]
      exact fun z => by have := Option.some.inj z; omega
theorem all_of_len {l : List Nat} (h : ¬ (l.takeWhile isFig).length < l.length) : AllDigits l := by
  induction l with
  | nil => exact fun c hc => nomatch hc
  | cons d r ih =>
    cases hd : isFig d with
    | false =>
      rw [List.takeWhile_cons_of_neg (by rw [hd]; exact Bool.false_ne_true)] at h
      exact absurd (Nat.succ_pos _) h
    | true =>
      rw [List.takeWhile_cons_of_pos hd, List.length_cons, List.length_cons] at h
      intro c hc
      rcases List.mem_cons.mp hc with rfl | hc
      · exact isFig_iff.mp hd
      · exact ih (by omega) c hc
theorem dec_of {l : List Nat} (h : AllDigits l) (hne : l ≠ []) (hh : l = [48] ∨ l.head? ≠ some 48) : decL (digitsVal l) = l := by
  obtain ⟨c, r, rfl⟩ : ∃ c r, l = c :: r := by
    cases l with
    | nil => exact absurd rfl hne
    | cons c r => exact ⟨c, r, rfl⟩
  have e : Nat.toDigits 10 (digitsVal (c :: r)) = (c :: r).map Char.ofNat := by
    refine toDigits_digitsVal r.length (c :: r) rfl h ?_
    rcases hh with e | hh
    · have := (List.cons.inj e).2
      subst this
      exact .inl rfl
    · have h1 := h.head
      have h2 : c ≠ 48 := fun z => hh (by rw [z]; rfl)
      exact .inr ⟨c, r, rfl, by omega⟩
  unfold decL
  rw [e, List.map_map]
  refine (List.map_congr_left fun d hd => ?_).trans (List.map_id _)
  have hd := h d hd
  have key : ∀ d, d ≤ 57 → (Char.ofNat d).toNat = d := by decide
  exact key d hd.2
theorem isNum_own {l : List Nat} (h : isNumL l = true) : intL (numL l) = l := by
  unfold isNumL at h
  by_cases h45 : l.take 1 = [45]
  · rw [if_pos h45] at h
    obtain ⟨f, rfl⟩ : ∃ f, l = 45 :: f := by
      cases l with
      | nil => cases h45
      | cons c r => exact ⟨r, by rw [(List.cons.inj h45).1]⟩
    obtain ⟨hw, hh⟩ := isNumF_to h
    have hf : f ≠ [] := fun z => hw (.inl z)
    have hd : AllDigits f := all_of_len fun z => hw (.inr z)
    have hh : f.head? ≠ some 48 := hh.resolve_left fun z => by have := (List.cons.inj z).1; omega
    obtain ⟨c, r, rfl⟩ : ∃ c r, f = c :: r := by
      cases f with
      | nil => exact absurd rfl hf
      | cons c r => exact ⟨c, r, rfl⟩
    have h1 := hd.head
    have hp : 0 < digitsVal (c :: r) := digitsVal_pos (by
      have : c ≠ 48 := fun z => hh (by rw [z]; rfl)
      omega)
    have e := dec_of hd hf (.inr hh)
    rw [num_minus hd]
    unfold intL
    rw [if_pos (by omega), show (0 - (digitsVal (c :: r) : Int)).natAbs = digitsVal (c :: r) by omega, e]
  · rw [if_neg h45] at h
    obtain ⟨hw, hh⟩ := isNumF_to h
    have hf : l ≠ [] := fun z => hw (.inl z)
    have hd : AllDigits l := all_of_len fun z => hw (.inr z)
    rw [num_digits hd]
    unfold intL
    rw [if_neg (by omega), show (digitsVal l : Int).natAbs = digitsVal l by omega]
    exact dec_of hd hf hh
theorem isNum_iff (l : List Nat) : isNumL l = decide (intL (numL l) = l) := by
  cases h : isNumL l with
  | true => exact (decide_eq_true (isNum_own h)).symm
  | false =>
    refine (decide_eq_false fun e => ?_).symm
    rw [← e, isNum_int] at h
    cases h
/-- a number's own text -/
theorem tl_int (n : Int) : tl (Str.ofString (toString n)) = intL n := by
  rw [tl, Str.ofString_eq_toList, Int.toString_eq_repr, Int.repr_eq_if]
  show ((if 0 ≤ n then n.toNat.repr else "-" ++ (-n).toNat.repr).toList.map Char.toNat) = _
  unfold intL
  split
  · rw [if_neg (by omega), Nat.toList_repr]
    unfold decL
    rw [show n.natAbs = n.toNat by omega]
  · rw [if_pos (by omega), String.toList_append, Nat.toList_repr, List.map_append]
    unfold decL
    rw [show n.natAbs = (-n).toNat by omega]
    rfl
/-- the number of a text, whether it is a number's own -/
def numS (s : Str) : Int := numL (tl s)
def isNumS (s : Str) : Bool := isNumL (tl s)
def intS (n : Int) : Str := Str.ofString (toString n)
theorem isNumS_iff (s : Str) : isNumS s = decide (intS (numS s) = s) := by
  unfold isNumS numS intS
  rw [isNum_iff]
  exact decide_eq_decide.mpr ⟨fun h => tl_inj (by rw [tl_int]; exact h), fun h => by rw [← tl_int, h]⟩
theorem numS_int (n : Int) : numS (intS n) = n := by unfold numS intS; rw [tl_int, num_int]
theorem isNumS_int (n : Int) : isNumS (intS n) = true := by unfold isNumS intS; rw [tl_int, isNum_int]
end Sk

namespace Sk
open PySem PySem.Spec PyProof.Rows L2
/-! ### text * number -/
def rRepS : R2 := fun x y H Q => ∃ (z : Str) (n : Int), x = .str z ∧ y = .int n ∧ 0 ≤ n ∧ n ≤ 1000 ∧ z.length ≤ 10000 ∧ ∀ r : Str, (r.length : Int) = z.length * n → (∀ c ∈ tl r, c ∈ tl z) → Q (.str r) H
theorem mulOk {z : Str} {n : Int} (h0 : 0 ≤ n) (h1 : n ≤ 1000) (hz : z.length ≤ 10000) : MulOk z n := by
  refine ⟨?_, fun h _ => ?_, fun h _ => ?_⟩
  · rw [decide_eq_false (by omega), decide_eq_false (by omega)]; rfl
  · have h2 : (10000 : Int) ≤ (2 ^ 63 - 1) / n := by
      rw [Int.le_ediv_iff_mul_le (by omega)]
      omega
    omega
  · have h2 : z.length * n.toNat ≤ 10000 * 1000 := Nat.mul_le_mul hz (by omega)
    exact PyProof.Rows.short24 (by omega)
theorem foldl_app (l : List Nat) : ∀ (k : Nat) (acc : Array Nat), ((List.replicate k l.toArray).foldl (· ++ ·) acc).toList = acc.toList ++ (List.replicate k l).flatten
  | 0, acc => by simp
  | k + 1, acc => by
    rw [List.replicate_succ, List.foldl_cons, foldl_app l k, List.replicate_succ, List.flatten_cons, Array.toList_append, List.append_assoc]
theorem tl_mul (z : Str) {n : Int} (h0 : 0 ≤ n) : tl (Txt.mul z n) = (List.replicate n.toNat (tl z)).flatten := by
  unfold Txt.mul
  by_cases h : n < 1
  · rw [if_pos h, show n.toNat = 0 by omega]
    rfl
  · rw [if_neg h]
    by_cases h2 : (n == 1 || z.length == 0) = true
    · rw [if_pos h2]
      rcases Bool.or_eq_true _ _ ▸ h2 with e | e
      · rw [beq_iff_eq.mp e]
        show tl z = (List.replicate 1 (tl z)).flatten
        simp
      · have h3 : tl z = [] := List.length_eq_zero_iff.mp (by rw [← len_tl]; exact beq_iff_eq.mp e)
        rw [h3]
        simp
    · rw [if_neg h2]
      have e := foldl_app (tl z) n.toNat #[]
      rw [show (tl z).toArray = z.cps from Array.toArray_toList] at e
      exact e.trans (List.nil_append _)
theorem op_repS {X : Cx} : OpR X (binaryOp .Mult) rRepS := by
  intro pins s σ H x y v u Q I rx ry h
  obtain ⟨z, n, rfl, rfl, h0, h1, hz, q⟩ := h
  obtain ⟨t, rfl⟩ := rx
  obtain ⟨t', rfl⟩ := ry
  refine SB.mul (mulOk h0 h1 hz) fun t2 k => ⟨.str _, H, I.tok _, ⟨_, rfl⟩, q _ ?_ fun c hc => ?_⟩
  · have hk : ∀ k : Nat, (List.replicate k (tl z)).flatten.length = k * z.length := by
      intro k
      induction k with
      | zero => simp
      | succ k ih => rw [List.replicate_succ, List.flatten_cons, List.length_append, ih, ← len_tl, Nat.succ_mul, Nat.add_comm]
    rw [len_tl, tl_mul z h0, hk, Int.natCast_mul, Int.toNat_of_nonneg h0, Int.mul_comm]
  · rw [tl_mul z h0, List.mem_flatten] at hc
    obtain ⟨l, hl, hc⟩ := hc
    rw [(List.mem_replicate.mp hl).2] at hc
    exact hc
/-! ### slices of texts -/
theorem cut_from (z : Str) (a : Nat) : tl (cutS z (some (a : Int)) none) = (tl z).drop a := by
  show ((z.cps.toList.drop (HT.sIx z.length 0 (some (a : Int)))).take (HT.sIx z.length z.length none - HT.sIx z.length 0 (some (a : Int)))) = _
  rw [HT.sIx_none, HT.sIx_nat, len_tl]
  by_cases h : a ≤ (tl z).length
  · rw [Nat.min_eq_left h]
    exact List.take_of_length_le (by rw [List.length_drop]; exact Nat.le_refl _)
  · rw [List.drop_eq_nil_of_le (show z.cps.toList.length ≤ min a (tl z).length by show (tl z).length ≤ _; omega), List.drop_eq_nil_of_le (show (tl z).length ≤ a by omega)]
    exact List.take_nil
theorem cut_mid (z : Str) (a b : Nat) : tl (cutS z (some (a : Int)) (some (b : Int))) = ((tl z).drop a).take (b - a) := by
  show ((z.cps.toList.drop (HT.sIx z.length 0 (some (a : Int)))).take (HT.sIx z.length z.length (some (b : Int)) - HT.sIx z.length 0 (some (a : Int)))) = _
  rw [HT.sIx_nat, HT.sIx_nat, len_tl]
  by_cases h : a ≤ (tl z).length
  · rw [Nat.min_eq_left h, List.take_eq_take_iff]
    show min (min b (tl z).length - a) (List.drop a (tl z)).length = min (b - a) (List.drop a (tl z)).length
    rw [List.length_drop]
    omega
  · rw [List.drop_eq_nil_of_le (show z.cps.toList.length ≤ min a (tl z).length by show (tl z).length ≤ _; omega), List.drop_eq_nil_of_le (show (tl z).length ≤ a by omega), List.take_nil, List.take_nil]
theorem cut_toN (z : Str) (b : Nat) : tl (cutS z none (some (b : Int))) = (tl z).take b := by
  rw [cut_to z (by omega), Int.toNat_natCast]
/-! ### counting one sign -/
theorem cnt_count (c : Nat) : ∀ l : List Nat, cnt c l = (l.count c : Int)
  | [] => rfl
  | n :: r => by
    rw [cnt_cons, cnt_count c r, List.count_cons]
    by_cases h : n = c
    · rw [if_pos h, h, beq_self_eq_true, if_pos rfl]
      omega
    · rw [if_neg h, beq_eq_false_iff_ne.mpr h, if_neg Bool.false_ne_true]
      omega
theorem count_one (z : Str) (c : Nat) : Txt.count z ⟨#[c]⟩ = ((tl z).count c : Int) := (count_cnt z c).trans (cnt_count c _)
/-! ### numbers of worths -/
theorem takeWhile_pre {p : Nat → Bool} {pre rest : List Nat} (h : ∀ c ∈ pre, p c = true) (hr : rest = [] ∨ ∃ c r, rest = c :: r ∧ p c = false) : (pre ++ rest).takeWhile p = pre ∧ (pre ++ rest).dropWhile p = rest := by
  induction pre with
  | nil =>
    rcases hr with e | ⟨c, r, e, hc⟩
    · subst e; exact ⟨rfl, rfl⟩
    · subst e
      rw [List.nil_append, List.takeWhile_cons_of_neg (by rw [hc]; exact Bool.false_ne_true), List.dropWhile_cons_of_neg (by rw [hc]; exact Bool.false_ne_true)]
      exact ⟨rfl, rfl⟩
  | cons d r ih =>
    have hd := h d List.mem_cons_self
    rw [List.cons_append, List.takeWhile_cons_of_pos hd, List.dropWhile_cons_of_pos hd]
    obtain ⟨e1, e2⟩ := ih fun c hc => h c (List.mem_cons_of_mem _ hc)
    rw [e1, e2]
    exact ⟨rfl, rfl⟩
def aheadL (l some : List Nat) : List Nat := l.takeWhile fun c => decide (c ∈ some)
def spAhead : Sp := fun vs H Q _ => ∃ w z : Str, vs = [.str w, .str z] ∧ w.length ≤ 100000 ∧ Q (.int ((aheadL (tl w) (tl z)).length : Int)) H
def spNumberOf : Sp := fun vs H Q _ => ∃ w : Str, vs = [.str w] ∧ w.length ≤ 640 ∧ Q (.int (numS w)) H
def spIsNumber : Sp := fun vs H Q _ => ∃ w : Str, vs = [.str w] ∧ w.length ≤ 100000 ∧ Q (.bl (isNumS w)) H
def spNumberText : Sp := fun vs H Q _ => ∃ n : Int, vs = [.int n] ∧ n.natAbs.log2 < 1920 ∧ Q (.str (intS n)) H
theorem ahead_marks (l : List Nat) : aheadL l (tl (Str.ofString "+-")) = marksOf l := by
  unfold aheadL marksOf
  refine congrArg (fun p => List.takeWhile p l) (funext fun c => ?_)
  rw [show tl (Str.ofString "+-") = [43, 45] by decide +kernel]
  unfold isMark
  simp [List.mem_cons, beq_iff_eq, Bool.decide_or, decide_eq_decide]
  rw [Bool.beq_eq_decide_eq, Bool.beq_eq_decide_eq]
theorem ahead_figs (l : List Nat) : aheadL l (tl (Str.ofString "0123456789")) = l.takeWhile isFig := by
  unfold aheadL
  refine congrArg (fun p => List.takeWhile p l) (funext fun c => ?_)
  rw [show tl (Str.ofString "0123456789") = [48, 49, 50, 51, 52, 53, 54, 55, 56, 57] by decide +kernel]
  unfold isFig
  rw [← Bool.decide_and]
  refine decide_eq_decide.mpr ?_
  simp only [List.mem_cons, List.not_mem_nil, or_false]
  omega
end Sk

namespace Sk
open PySem PySem.Spec PyProof.Rows L2
open PySem.NumText (AllDigits digitsVal digitsVal_snoc)
theorem digitsVal_lt : ∀ (n : Nat) (l : List Nat), l.length = n → AllDigits l → digitsVal l < 10 ^ n := by
  intro n
  induction n with
  | zero =>
    intro l h _
    rw [List.length_eq_zero_iff.mp h]
    decide
  | succ n ih =>
    intro l h hd
    obtain ⟨r, c, rfl⟩ : ∃ r c, l = r ++ [c] := ⟨l.dropLast, l.getLast (by intro z; rw [z] at h; cases h), (List.dropLast_concat_getLast _).symm⟩
    rw [digitsVal_snoc]
    have h1 := ih r (by rw [List.length_append, List.length_singleton] at h; omega) fun d hd' => hd d (List.mem_append_left _ hd')
    have h2 := hd c (List.mem_append_right _ (List.mem_singleton.mpr rfl))
    rw [Nat.pow_succ]
    omega
theorem val_bits {l : List Nat} (h : AllDigits l) (hl : l.length ≤ 640) : ((digitsVal l : Nat) : Int).natAbs < 2 ^ 2560 := by
  rw [Int.natAbs_natCast]
  refine Nat.lt_of_lt_of_le (digitsVal_lt _ l rfl h) ?_
  refine Nat.le_trans (Nat.pow_le_pow_left (by decide : 10 ≤ 2 ^ 4) _) ?_
  rw [← Nat.pow_mul]
  exact Nat.pow_le_pow_right (by decide) (by omega)
theorem val_mul {l : List Nat} (h : AllDigits l) (hl : l.length ≤ 640) : CMulW ((digitsVal l : Nat) : Int) 10 := wide_mul (b := 4) (val_bits h hl) (by decide) (by decide) (by decide) (by decide)
theorem find_fig {c : Nat} (h : 48 ≤ c ∧ c ≤ 57) : Txt.find (Str.ofString "0123456789") ⟨#[c]⟩ = ((c - 48 : Nat) : Int) := by
  have key : ∀ k < 10, Txt.find (Str.ofString "0123456789") ⟨#[48 + k]⟩ = ((48 + k - 48 : Nat) : Int) := by decide +kernel
  have := key (c - 48) (by omega)
  rw [show 48 + (c - 48) = c by omega] at this
  exact this
theorem fig_mem {c : Nat} : decide (c ∈ tl (Str.ofString "0123456789")) = isFig c := by
  rw [show tl (Str.ofString "0123456789") = [48, 49, 50, 51, 52, 53, 54, 55, 56, 57] by decide +kernel]
  unfold isFig
  rw [← Bool.decide_and]
  refine decide_eq_decide.mpr ?_
  simp only [List.mem_cons, List.not_mem_nil, or_false]
  omega
theorem mark_mem {c : Nat} : decide (c ∈ tl (Str.ofString "+-")) = isMark c := by
  rw [show tl (Str.ofString "+-") = [43, 45] by decide +kernel, Bool.eq_iff_iff, decide_eq_true_eq, isMark_iff]
  simp only [List.mem_cons, List.not_mem_nil, or_false]
theorem eq_sign {c d : Nat} : decide (V.str ⟨#[c]⟩ = V.str ⟨#[d]⟩) = (c == d) := by
  rw [Bool.eq_iff_iff, decide_eq_true_eq, beq_iff_eq]
  exact ⟨fun z => by
    have := congrArg tl (V.str.inj z)
    exact (List.cons.inj this).1, fun z => by rw [z]⟩
def spLawNumber : Sp := fun vs H Q _ => ∃ x : Str, vs = [.str x] ∧ x.length ≤ 640 ∧ ∀ H', Same H H' → Q (.int (numS x)) H'
def spWritten : Sp := fun vs H Q _ => ∃ n : Int, vs = [.int n] ∧ (intL n).length ≤ 10000 ∧ ∀ H', Same H H' → Q (.str (intS n)) H'
theorem item_fig {k : Int} (h0 : 0 ≤ k) (h1 : k < 10) : atI (tl (Str.ofString "0123456789")) k = some (48 + k.toNat) := by
  have key : ∀ j : Nat, j < 10 → atI (tl (Str.ofString "0123456789")) (j : Int) = some (48 + j) := by decide +kernel
  have := key k.toNat (by omega)
  rw [Int.toNat_of_nonneg h0] at this
  exact this
theorem intL_abs (n : Int) : intL n = if n < 0 then 45 :: decL n.natAbs else decL n.natAbs := rfl
theorem intL_bits {n : Int} (h : (intL n).length ≤ 640) : n.natAbs < 2 ^ 2560 := by
  have h1 : (decL n.natAbs).length ≤ 640 := by
    unfold intL at h
    split at h
    · rw [List.length_cons] at h; omega
    · exact h
  have h2 := val_bits (decL_digits n.natAbs) h1
  rw [decL_val, Int.natAbs_natCast] at h2
  exact h2
theorem digitsVal_len : ∀ (l : List Nat), AllDigits l → (decL (digitsVal l)).length ≤ l.length + 1 := by
  have key : ∀ (m n : Nat), n < 10 ^ m → (decL n).length ≤ m + 1 := by
    intro m
    induction m with
    | zero => intro n h; rw [show n = 0 by omega, decL_lt (by decide)]; decide
    | succ m ih =>
      intro n h
      by_cases hn : n < 10
      · rw [decL_lt hn]; show 1 ≤ _; omega
      · rw [decL_ge (by omega), List.length_append, List.length_singleton]
        have := ih (n / 10) (by rw [Nat.pow_succ] at h; omega)
        omega
  exact fun l h => key _ _ (digitsVal_lt _ l rfl h)
theorem numS_len {x : Str} : (intL (numS x)).length ≤ x.length + 2 := by
  have hd : AllDigits (figsOf (tl x)) := fun c hc => isFig_iff.mp (mem_takeWhile hc)
  have h1 := digitsVal_len _ hd
  have h2 : (figsOf (tl x)).length ≤ x.length := by
    rw [len_tl]
    exact Nat.le_trans ((List.takeWhile_sublist _).length_le) ((List.dropWhile_sublist _).length_le)
  have h3 : (numS x).natAbs = digitsVal (figsOf (tl x)) := by
    unfold numS numL
    split <;> omega
  unfold intL
  rw [h3]
  split
  · rw [List.length_cons]; omega
  · omega
end Sk
namespace Sk
open PySem PySem.Spec PyProof.Rows L2
def topS (i : Nat) : Stmt := PySem.Challenge.pw_stemkeep_k02_numbers_of_worths.main.body.getD i (.Pass ⟨0, 0, 0, 0⟩)
abbrev s_signs_ahead : Stmt := topS 2
abbrev N_signs_ahead : List Str := ["worth", "some", "many"]
theorem sc_signs_ahead : FnScope N_signs_ahead ["worth", "some"] (defScope s_signs_ahead) := ⟨rfl, rfl, rfl, by decide +kernel, rfl, by decide +kernel, by decide +kernel⟩
abbrev s_number_of : Stmt := topS 3
abbrev N_number_of : List Str := ["worth", "marks", "figures", "number"]
theorem sc_number_of : FnScope N_number_of ["worth"] (defScope s_number_of) := ⟨rfl, rfl, rfl, by decide +kernel, rfl, by decide +kernel, by decide +kernel⟩
abbrev s_number_text : Stmt := topS 4
abbrev N_number_text : List Str := ["number"]
theorem sc_number_text : FnScope N_number_text ["number"] (defScope s_number_text) := ⟨rfl, rfl, rfl, by decide +kernel, rfl, by decide +kernel, by decide +kernel⟩
abbrev s_is_number_text : Stmt := topS 5
abbrev N_is_number_text : List Str := ["worth", "figures"]
theorem sc_is_number_text : FnScope N_is_number_text ["worth"] (defScope s_is_number_text) := ⟨rfl, rfl, rfl, by decide +kernel, rfl, by decide +kernel, by decide +kernel⟩
abbrev s_law_cell_at : Stmt := topS 7
abbrev N_law_cell_at : List Str := ["script", "k"]
theorem sc_law_cell_at : FnScope N_law_cell_at ["script", "k"] (defScope s_law_cell_at) := ⟨rfl, rfl, rfl, by decide +kernel, rfl, by decide +kernel, by decide +kernel⟩
abbrev s_law_bag : Stmt := topS 8
abbrev N_law_bag : List Str := ["cell", "nth"]
theorem sc_law_bag : FnScope N_law_bag ["cell", "nth"] (defScope s_law_bag) := ⟨rfl, rfl, rfl, by decide +kernel, rfl, by decide +kernel, by decide +kernel⟩
abbrev s_law_draw : Stmt := topS 9
abbrev N_law_draw : List Str := ["bag", "many", "found", "mixed"]
theorem sc_law_draw : FnScope N_law_draw ["bag", "many"] (defScope s_law_draw) := ⟨rfl, rfl, rfl, by decide +kernel, rfl, by decide +kernel, by decide +kernel⟩
abbrev s_law_signs : Stmt := topS 10
abbrev N_law_signs : List Str := ["few"]
theorem sc_law_signs : FnScope N_law_signs [] (defScope s_law_signs) := ⟨rfl, rfl, rfl, by decide +kernel, rfl, by decide +kernel, by decide +kernel⟩
abbrev s_law_text : Stmt := topS 11
abbrev N_law_text : List Str := ["bag", "most", "lot", "number", "near", "some", "many", "k"]
theorem sc_law_text : FnScope N_law_text ["bag", "most"] (defScope s_law_text) := ⟨rfl, rfl, rfl, by decide +kernel, rfl, by decide +kernel, by decide +kernel⟩
abbrev s_law_number : Stmt := topS 12
abbrev N_law_number : List Str := ["worth", "at", "minus", "found"]
theorem sc_law_number : FnScope N_law_number ["worth"] (defScope s_law_number) := ⟨rfl, rfl, rfl, by decide +kernel, rfl, by decide +kernel, by decide +kernel⟩
abbrev s_law_written : Stmt := topS 13
abbrev N_law_written : List Str := ["number", "left", "found"]
theorem sc_law_written : FnScope N_law_written ["number"] (defScope s_law_written) := ⟨rfl, rfl, rfl, by decide +kernel, rfl, by decide +kernel, by decide +kernel⟩
abbrev s_law_right : Stmt := topS 14
abbrev N_law_right : List Str := ["worth", "due", "found", "own"]
theorem sc_law_right : FnScope N_law_right ["worth"] (defScope s_law_right) := ⟨rfl, rfl, rfl, by decide +kernel, rfl, by decide +kernel, by decide +kernel⟩
abbrev s_law : Stmt := topS 15
abbrev N_law : List Str := ["script", "k", "bag", "number", "marks", "some", "found", "j", "worth"]
theorem sc_law : FnScope N_law ["script"] (defScope s_law) := ⟨rfl, rfl, rfl, by decide +kernel, rfl, by decide +kernel, by decide +kernel⟩
structure Ad where
  a_signs_ahead : Addr
  d_signs_ahead : FuncData
  a_number_of : Addr
  d_number_of : FuncData
  a_number_text : Addr
  d_number_text : FuncData
  a_is_number_text : Addr
  d_is_number_text : FuncData
  a_law_cell_at : Addr
  d_law_cell_at : FuncData
  a_law_bag : Addr
  d_law_bag : FuncData
  a_law_draw : Addr
  d_law_draw : FuncData
  a_law_signs : Addr
  d_law_signs : FuncData
  a_law_text : Addr
  d_law_text : FuncData
  a_law_number : Addr
  d_law_number : FuncData
  a_law_written : Addr
  d_law_written : FuncData
  a_law_right : Addr
  d_law_right : FuncData
  a_law : Addr
  d_law : FuncData
  t_FIGURES : Tok
structure Txt (K : PySem.W.Frag) (mg : Str → Option Value) (A : Ad) : Prop where
  F_signs_ahead : Fun K "signs_ahead" "signs_ahead" s_signs_ahead A.a_signs_ahead A.d_signs_ahead
  g_signs_ahead : mg "signs_ahead" = some (.ref A.a_signs_ahead)
  b_signs_ahead : Binds K A.d_signs_ahead ["worth", "some"] []
  F_number_of : Fun K "number_of" "number_of" s_number_of A.a_number_of A.d_number_of
  g_number_of : mg "number_of" = some (.ref A.a_number_of)
  b_number_of : Binds K A.d_number_of ["worth"] []
  F_number_text : Fun K "number_text" "number_text" s_number_text A.a_number_text A.d_number_text
  g_number_text : mg "number_text" = some (.ref A.a_number_text)
  b_number_text : Binds K A.d_number_text ["number"] []
  F_is_number_text : Fun K "is_number_text" "is_number_text" s_is_number_text A.a_is_number_text A.d_is_number_text
  g_is_number_text : mg "is_number_text" = some (.ref A.a_is_number_text)
  b_is_number_text : Binds K A.d_is_number_text ["worth"] []
  F_law_cell_at : Fun K "_law_cell_at" "_law_cell_at" s_law_cell_at A.a_law_cell_at A.d_law_cell_at
  g_law_cell_at : mg "_law_cell_at" = some (.ref A.a_law_cell_at)
  b_law_cell_at : Binds K A.d_law_cell_at ["script", "k"] []
  F_law_bag : Fun K "_law_bag" "_law_bag" s_law_bag A.a_law_bag A.d_law_bag
  g_law_bag : mg "_law_bag" = some (.ref A.a_law_bag)
  b_law_bag : Binds K A.d_law_bag ["cell", "nth"] []
  F_law_draw : Fun K "_law_draw" "_law_draw" s_law_draw A.a_law_draw A.d_law_draw
  g_law_draw : mg "_law_draw" = some (.ref A.a_law_draw)
  b_law_draw : Binds K A.d_law_draw ["bag", "many"] []
  F_law_signs : Fun K "_law_signs" "_law_signs" s_law_signs A.a_law_signs A.d_law_signs
  g_law_signs : mg "_law_signs" = some (.ref A.a_law_signs)
  b_law_signs : Binds K A.d_law_signs [] []
  F_law_text : Fun K "_law_text" "_law_text" s_law_text A.a_law_text A.d_law_text
  g_law_text : mg "_law_text" = some (.ref A.a_law_text)
  b_law_text : Binds K A.d_law_text ["bag", "most"] []
  F_law_number : Fun K "_law_number" "_law_number" s_law_number A.a_law_number A.d_law_number
  g_law_number : mg "_law_number" = some (.ref A.a_law_number)
  b_law_number : Binds K A.d_law_number ["worth"] []
  F_law_written : Fun K "_law_written" "_law_written" s_law_written A.a_law_written A.d_law_written
  g_law_written : mg "_law_written" = some (.ref A.a_law_written)
  b_law_written : Binds K A.d_law_written ["number"] []
  F_law_right : Fun K "_law_right" "_law_right" s_law_right A.a_law_right A.d_law_right
  g_law_right : mg "_law_right" = some (.ref A.a_law_right)
  b_law_right : Binds K A.d_law_right ["worth"] []
  F_law : Fun K "law" "law" s_law A.a_law A.d_law
  g_law : mg "law" = some (.ref A.a_law)
  b_law : Binds K A.d_law ["script"] []
  n_abs : mg "abs" = none
  n_bool : mg "bool" = none
  n_int : mg "int" = none
  n_isinstance : mg "isinstance" = none
  n_len : mg "len" = none
  n_max : mg "max" = none
  n_min : mg "min" = none
  n_range : mg "range" = none
  n_str : mg "str" = none
  c_FIGURES : mg "FIGURES" = some (.str (Str.ofString "0123456789") A.t_FIGURES)
section
variable {P : Program} {w : World} {K : PySem.W.Frag} {mg : Str → Option Value} {base : Heap} {A : Ad}
theorem ok_law_draw (T : Txt K mg A) : FnOk P w K mg base CX0 1 A.a_law_draw A.d_law_draw ["bag", "many"] spDraw := by
  refine T.F_law_draw.ok sc_law_draw (fun vs H Q E h => ?_) (fun cdv A outer s H vs Q E hr h => ?_)
  · obtain ⟨b, m, N, rfl, _⟩ := h
    rfl
  · obtain ⟨b, m, N, rfl, m0, m1, hN, ⟨x, y, z, hb, y0, y1, z0, z1⟩, q⟩ := h
    have hl : SqL K H b [.int x, .int y, .int z] := .inl (.inl hb)
    refine ⟨_, (pss_cons (ps_if (pt_cmpR op_gt (pe_ix (k_ix_list K) (pv 0) pe_int (fun _ _ => rfl)) pe_int (nomark _))
      (pss_cons (ps_set (i := 2) sc_law_draw.nd rfl (.inl rfl) (pe_op op_mod (pe_ix (k_ix_list K) (pv 0) pe_int (fun _ _ => rfl)) (pv 1)))
      (pss_cons (ps_asg (pe_op op_fdivW (pe_ix (k_ix_list K) (pv 0) pe_int (fun _ _ => rfl)) (pv 1)) (pg_sub (pv 0) pe_int set_list))
      (pss_one (ps_ret (pv 2)))))
      pss_nil)
      (pss_cons (ps_asg (pe_op op_add (pe_ix (k_ix_list K) (pv 0) pe_int (fun _ _ => rfl)) pe_int) (pg_sub (pv 0) pe_int set_list))
      (pss_cons (ps_set (i := 3) sc_law_draw.nd rfl (.inl rfl) (pe_op op_mod (pe_op op_powW (pe_op op_add (pe_ix (k_ix_list K) (pv 0) pe_int (fun _ _ => rfl)) (pe_op op_mulW pe_int (pe_ix (k_ix_list K) (pv 0) pe_int (fun _ _ => rfl)))) pe_int) pe_int))
      (pss_cons (ps_set (i := 3) sc_law_draw.nd rfl (.inl rfl) (pe_op op_mod (pe_op op_powW (pe_op op_add (pv 3) (pe_op op_mulW pe_int (pe_ix (k_ix_list K) (pv 0) pe_int (fun _ _ => rfl)))) pe_int) pe_int))
      (pss_one (ps_ret (pe_op op_mod (pe_op op_fdivW (pv 3) pe_int) (pv 1)))))))), ?_⟩
    refine ⟨.ref b, rfl, b, _, 0, .int x, rfl, rfl, hl, atI_nat (j := 0) rfl, x, 1, rfl, rfl, _, rfl, ite2 (fun e => ?_) (fun e => ?_)⟩
    · refine ⟨.ref b, rfl, b, _, 0, .int x, rfl, rfl, hl, atI_nat (j := 0) rfl, .int m, rfl, x, m, rfl, rfl, m0, ?_⟩
      refine ⟨.ref b, rfl, b, _, 0, .int x, rfl, rfl, hl, atI_nat (j := 0) rfl, .int m, rfl, x, m, rfl, rfl, div_ok m0 m1, ?_⟩
      refine ⟨.ref b, rfl, b, _, _, 0, rfl, rfl, hb, rfl, ?_⟩
      refine ⟨_, rfl, q _ _ .upd ⟨x / m, y, z, upd_same, y0, y1, z0, by omega⟩ (Int.emod_nonneg _ (by omega)) (Int.emod_lt_of_pos _ m0)⟩
    · refine ⟨.ref b, rfl, b, _, 2, .int z, rfl, rfl, hl, atI_nat (j := 2) rfl, z, 1, rfl, rfl, ?_⟩
      refine ⟨.ref b, rfl, b, _, _, 2, rfl, rfl, hb, rfl, ?_⟩
      generalize hH1 : upd H b _ = H1
      have hb1 : H1 b = some (.lst [.int x, .int y, .int (z + 1)]) := by rw [← hH1]; exact upd_same
      have hl1 : SqL K H1 b [.int x, .int y, .int (z + 1)] := .inl (.inl hb1)
      refine ⟨.ref b, rfl, b, _, 1, .int y, rfl, rfl, hl1, atI_nat (j := 1) rfl, .ref b, rfl, b, _, 2, .int (z + 1), rfl, rfl, hl1, atI_nat (j := 2) rfl, 67867967, z + 1, rfl, rfl, mul_ok (by decide) (by omega), y, 67867967 * (z + 1), rfl, rfl, _, 3, rfl, rfl, pow_ok (by omega) (by omega), _, _, rfl, rfl, (show (0 : Int) < 170141183460469231731687303715884105727 by decide), ?_⟩
      dsimp only
      generalize hm : (y + 67867967 * (z + 1)) ^ (3 : Int).toNat % 170141183460469231731687303715884105727 = m1
      have p0 : 0 ≤ m1 := by rw [← hm]; exact Int.emod_nonneg _ (by decide)
      have p1 : m1 < 170141183460469231731687303715884105727 := by rw [← hm]; exact Int.emod_lt_of_pos _ (by decide)
      refine ⟨_, rfl, .ref b, rfl, b, _, 2, .int (z + 1), rfl, rfl, hl1, atI_nat (j := 2) rfl, 49979687, z + 1, rfl, rfl, mul_ok (by decide) (by omega), m1, 49979687 * (z + 1), rfl, rfl, _, 3, rfl, rfl, pow_ok (by omega) (by omega), _, _, rfl, rfl, (show (0 : Int) < 162259276829213363391578010288127 by decide), ?_⟩
      refine ⟨_, rfl, _, 4096, rfl, rfl, div_ok (by decide) (by decide), .int m, rfl, _, m, rfl, rfl, m0, ?_⟩
      exact q _ _ (by rw [← hH1]; exact .upd) ⟨x, y, z + 1, hb1, y0, y1, by omega, by omega⟩ (Int.emod_nonneg _ (by omega)) (Int.emod_lt_of_pos _ m0)
theorem ok_law_cell_at (T : Txt K mg A) : FnOk P w K mg base CX0 1 A.a_law_cell_at A.d_law_cell_at ["script", "k"] (spCell K) := by
  refine T.F_law_cell_at.ok sc_law_cell_at (fun vs H Q E h => ?_) (fun cdv A outer s H vs Q E hr h => ?_)
  · obtain ⟨a, ns, k, rfl, _⟩ := h
    rfl
  · obtain ⟨a, ns, k, rfl, hS, hk, q⟩ := h
    refine ⟨_, (pss_cons (ps_if (pt_cmpR op_lt (pv 1) (pe_callB (k_len K) (by rfl) T.n_len PySem.boot_len (pa_cons (pv 0) pa_nil)) (nomark _))
      (pss_one (ps_ret (pe_ix (k_ix_list K) (pv 0) (pv 1) (fun _ _ => rfl))))
      pss_nil)
      (pss_one (ps_ret pe_int))), ?_⟩
    refine ⟨_, rfl, .ref a, rfl, a, _, rfl, .inl hS, k, _, rfl, rfl, _, rfl, ite2 (fun e => ?_) (fun e => ?_)⟩
    · obtain ⟨v, _, hv⟩ := at_map (xs := ns) V.int hk (by
        have := of_decide_eq_true e
        rw [List.length_map] at this
        exact this)
      exact ⟨.ref a, rfl, .int k, rfl, a, _, k, .int v, rfl, rfl, hS, hv, q v⟩
    · exact q 0
theorem ok_law_bag (T : Txt K mg A) : FnOk P w K mg base CX0 1 A.a_law_bag A.d_law_bag ["cell", "nth"] spBag := by
  refine T.F_law_bag.ok sc_law_bag (fun vs H Q E h => ?_) (fun cdv A outer s H vs Q E hr h => ?_)
  · obtain ⟨c, n, rfl, _⟩ := h
    rfl
  · obtain ⟨c, n, rfl, n0, n1, q⟩ := h
    refine ⟨_, (pss_one (ps_ret (pe_lst (pa_cons (pe_callB (call_max2 rfl) (by rfl) T.n_max (by decide +kernel) (pa_cons pe_int (pa_cons (pe_op op_sub (pv 0) (pe_op op_powW pe_int pe_int)) pa_nil))) (pa_cons (pe_op op_add (pe_op op_mod (pv 0) pe_int) (pe_op op_mulW pe_int (pv 1))) (pa_cons pe_int pa_nil)))))), ?_⟩
    refine ⟨.int c, rfl, 10, 18, rfl, rfl, ⟨by decide, by decide, by decide⟩, c, _, rfl, rfl, 0, _, rfl, .int c, rfl, c, 170141183460469231731687303715884105727, rfl, rfl, (show (0 : Int) < 170141183460469231731687303715884105727 by decide), .int n, rfl, 104395303, n, rfl, rfl, mul_ok (by decide) (by omega), _, _, rfl, rfl, (by show 3 ≤ sizeLine; decide), fun p hp => ?_⟩
    have e0 : 0 ≤ c % 170141183460469231731687303715884105727 := Int.emod_nonneg _ (by decide)
    have e1 : c % 170141183460469231731687303715884105727 < 170141183460469231731687303715884105727 := Int.emod_lt_of_pos _ (by decide)
    exact q _ _ hp (same_new hp) ⟨_, _, 0, upd_same, by omega, by omega, by omega, by omega⟩
theorem ok_law_signs (T : Txt K mg A) : FnOk P w K mg base CX0 1 A.a_law_signs A.d_law_signs [] spSigns := by
  refine T.F_law_signs.ok sc_law_signs (fun vs H Q E h => ?_) (fun cdv A outer s H vs Q E hr h => ?_)
  · obtain ⟨rfl, _⟩ := h
    rfl
  · obtain ⟨rfl, q⟩ := h
    refine ⟨_, (pss_cons (ps_set (i := 0) sc_law_signs.nd rfl (.inl rfl) pe_str)
      (pss_one (ps_ret (pe_op op_add_str (pe_op op_add_str (pe_op op_add_str (pe_op op_add_str pe_str (pe_upper (pv 0))) pe_str) (pv 0)) pe_str)))), ?_⟩
    refine ⟨_, rfl, ⟨_, rfl⟩, _, rfl, rfl, (by decide +kernel), _, _, rfl, rfl, (by decide +kernel), _, _, rfl, rfl, (by decide +kernel), _, rfl, _, _, rfl, rfl, (by decide +kernel), _, _, rfl, rfl, (by decide +kernel), ?_⟩
    have e : (((((" !\"#$&'()*+,-./0123456789:;<=>?@" : Str) ++ Txt.upper ("abcdefghijklmnopqrstuvwxyz" : Str)) ++ ("[\\]^_`" : Str)) ++ ("abcdefghijklmnopqrstuvwxyz" : Str)) ++ ("{|}~" : Str)) = lawSigns := by decide +kernel
    exact e ▸ q
theorem ok_law_text (T : Txt K mg A) : FnOk P w K mg base CX0 2 A.a_law_text A.d_law_text ["bag", "most"] spText := by
  have G_law_draw := ok_law_draw (P := P) (w := w) (base := base) T
  have G_law_signs := ok_law_signs (P := P) (w := w) (base := base) T
  refine T.F_law_text.ok sc_law_text (fun vs H Q E h => ?_) (fun cdv A outer s H vs Q E hr h => ?_)
  · obtain ⟨b, m, N, rfl, _⟩ := h
    rfl
  · obtain ⟨b, m, N, rfl, m0, m1, hN, hB, q⟩ := h
    refine ⟨_, (pss_cons (ps_set (i := 2) sc_law_text.nd rfl (.inl rfl) (pe_call G_law_draw (hr.mono (by decide)) (by rfl) T.g_law_draw T.F_law_draw.kp T.b_law_draw .nil pass0 (pa_cons (pv 0) (pa_cons pe_int pa_nil))))
      (pss_cons (ps_if (pt_cmpR op_lt (pv 2) pe_int (nomark _))
      (pss_cons (ps_set (i := 3) sc_law_text.nd rfl (.inl rfl) (pe_call G_law_draw (hr.mono (by decide)) (by rfl) T.g_law_draw T.F_law_draw.kp T.b_law_draw .nil pass0 (pa_cons (pv 0) (pa_cons (pe_ix (k_ix_list K) (pe_lst (pa_cons pe_int (pa_cons pe_int (pa_cons (pe_op op_powW pe_int pe_int) (pa_cons (pe_op op_powW pe_int pe_int) pa_nil))))) (pe_call G_law_draw (hr.mono (by decide)) (by rfl) T.g_law_draw T.F_law_draw.kp T.b_law_draw .nil pass0 (pa_cons (pv 0) (pa_cons pe_int pa_nil))) (fun _ _ => rfl)) pa_nil))))
      (pss_one (ps_ret (pe_slice sl_str (pe_callTy call_str_int (by rfl) T.n_str (by decide +kernel) (pa_cons (pe_op op_mulW (pv 3) (pe_ix (k_ix_list K) (pe_lst (pa_cons pe_int (pa_cons pe_int (pa_cons (pe_un un_neg pe_int) pa_nil)))) (pe_call G_law_draw (hr.mono (by decide)) (by rfl) T.g_law_draw T.F_law_draw.kp T.b_law_draw .nil pass0 (pa_cons (pv 0) (pa_cons pe_int pa_nil))) (fun _ _ => rfl))) pa_nil)) po_none (po_some (pv 1))))))
      pss_nil)
      (pss_cons (ps_if (pt_cmpR op_eq (pv 2) pe_int (nomark _))
      (pss_cons (ps_set (i := 4) sc_law_text.nd rfl (.inl rfl) (pe_lst (pa_cons pe_str (pa_cons pe_str (pa_cons pe_str (pa_cons pe_str (pa_cons pe_str (pa_cons pe_str (pa_cons pe_str (pa_cons pe_str (pa_cons pe_str (pa_cons pe_str (pa_cons pe_str (pa_cons pe_str (pa_cons pe_str (pa_cons pe_str (pa_cons pe_str (pa_cons pe_str pa_nil))))))))))))))))))
      (pss_one (ps_ret (pe_slice sl_str (pe_ix (k_ix_list K) (pv 4) (pe_call G_law_draw (hr.mono (by decide)) (by rfl) T.g_law_draw T.F_law_draw.kp T.b_law_draw .nil pass0 (pa_cons (pv 0) (pa_cons pe_int pa_nil))) (fun _ _ => rfl)) po_none (po_some (pv 1))))))
      pss_nil)
      (pss_cons (ps_if (pt_cmpR op_eq (pv 2) pe_int (nomark _))
      (pss_cons (ps_set (i := 5) sc_law_text.nd rfl (.inr rfl) (pe_lst (pa_cons pe_str (pa_cons pe_str (pa_cons pe_str (pa_cons pe_str (pa_cons pe_str (pa_cons pe_str (pa_cons pe_str (pa_cons pe_str (pa_cons pe_str (pa_cons pe_str (pa_cons pe_str (pa_cons pe_str (pa_cons pe_str (pa_cons pe_str (pa_cons pe_str pa_nil)))))))))))))))))
      (pss_one (ps_ret (pe_slice sl_str (pe_m1 PySem.F.slot_str_join PySem.F.type_str_join (k_mt_join K) pe_str (pe_lc (own := [("k", 7)]) (g := gName 7) (tt := tYes) rfl sc_law_text.nd (pi_range1 (by rfl) T.n_range (pa_cons (pe_op op_add pe_int (pe_call G_law_draw (hr.mono (by decide)) (by rfl) T.g_law_draw T.F_law_draw.kp T.b_law_draw .nil pass0 (pa_cons (pv 0) (pa_cons pe_int pa_nil)))) pa_nil)) (blkOk_by (own := [("k", 7)]) (N := N_law_text) (sc := defScope s_law_text) (by decide +kernel)) (fun _ _ _ _ _ => (pg_name (i := 7) sc_law_text.nd rfl (.inl rfl))) (fun _ _ _ _ _ => pts_nil) (fun _ _ _ _ _ => (pe_ix (k_ix_list K) (pv 5) (pe_call G_law_draw (hr.mono (by decide)) (by rfl) T.g_law_draw T.F_law_draw.kp T.b_law_draw .nil pass0 (pa_cons (pv 0) (pa_cons pe_int pa_nil))) (fun _ _ => rfl))))) po_none (po_some (pv 1))))))
      pss_nil)
      (pss_cons (ps_set (i := 5) sc_law_text.nd rfl (.inr rfl) (pe_ix (k_ix_list K) (pe_lst (pa_cons pe_str (pa_cons pe_str (pa_cons (pe_call0 G_law_signs (hr.mono (by decide)) (by rfl) T.g_law_signs T.F_law_signs.kp T.b_law_signs .nil pass0) pa_nil)))) (pe_op op_sub (pv 2) pe_int) (fun _ _ => rfl)))
      (pss_cons (ps_set (i := 6) sc_law_text.nd rfl (.inl rfl) (pe_ix (k_ix_list K) (pe_lst (pa_cons pe_int (pa_cons pe_int (pa_cons (pe_call G_law_draw (hr.mono (by decide)) (by rfl) T.g_law_draw T.F_law_draw.kp T.b_law_draw .nil pass0 (pa_cons (pv 0) (pa_cons (pe_op op_add (pv 1) pe_int) pa_nil))) pa_nil)))) (pe_call G_law_draw (hr.mono (by decide)) (by rfl) T.g_law_draw T.F_law_draw.kp T.b_law_draw .nil pass0 (pa_cons (pv 0) (pa_cons pe_int pa_nil))) (fun _ _ => rfl)))
      (pss_one (ps_ret (pe_m1 PySem.F.slot_str_join PySem.F.type_str_join (k_mt_join K) pe_str (pe_lc (own := [("k", 7)]) (g := gName 7) (tt := tYes) rfl sc_law_text.nd (pi_range1 (by rfl) T.n_range (pa_cons (pe_callB (call_min2 rfl) (by rfl) T.n_min (by decide +kernel) (pa_cons (pv 6) (pa_cons (pv 1) pa_nil))) pa_nil)) (blkOk_by (own := [("k", 7)]) (N := N_law_text) (sc := defScope s_law_text) (by decide +kernel)) (fun _ _ _ _ _ => (pg_name (i := 7) sc_law_text.nd rfl (.inl rfl))) (fun _ _ _ _ _ => pts_nil) (fun _ _ _ _ _ => (pe_ix ix_str (pv 5) (pe_call G_law_draw (hr.mono (by decide)) (by rfl) T.g_law_draw T.F_law_draw.kp T.b_law_draw .nil pass0 (pa_cons (pv 0) (pa_cons (pe_callB call_len_str (by rfl) T.n_len PySem.boot_len (pa_cons (pv 5) pa_nil)) pa_nil))) (fun _ _ => rfl))))))))))))), ?_⟩
    refine rd_draw (N := N) rfl (fun R h => h) (by decide) (by decide) (by omega) hB fun H1 lot c1 B1 l0 l1 => ?_
    refine ⟨_, rfl, _, _, rfl, rfl, _, rfl, ite2 (fun e => ?_) (fun e => ?_)⟩
    · -- a number's own text
      refine ⟨_, rfl, ?_⟩
      refine rd_menu (xs := [.int 10, .int 200, .int (10 ^ (20 : Int).toNat), .int (10 ^ (40 : Int).toNat)]) (N := N + 1) (fun R h => ⟨_, _, rfl, rfl, ⟨by decide, by decide, by decide⟩, _, _, rfl, rfl, ⟨by decide, by decide, by decide⟩, h⟩) rfl rfl (by decide) (by decide) (by omega) B1 fun H2 v hv c2 B2 => ?_
      obtain ⟨n, rfl, n0, n1⟩ : ∃ n : Int, v = .int n ∧ 0 < n ∧ n ≤ 10 ^ 40 := by
        simp only [List.mem_cons, List.not_mem_nil, or_false] at hv
        rcases hv with rfl | rfl | rfl | rfl <;> exact ⟨_, rfl, by decide, by decide⟩
      refine ⟨b, n, N + 2, rfl, n0, by omega, by omega, B2, fun H3 r c3 B3 r0 r1 => ?_⟩
      refine ⟨_, rfl, ?_⟩
      refine rd_menu (xs := [.int 1, .int 1, .int (-1)]) (N := N + 3) (fun R h => ⟨_, rfl, h⟩) rfl rfl (by decide) (by decide) (by omega) B3 fun H4 v hv c4 B4 => ?_
      obtain ⟨k, rfl, k0⟩ : ∃ k : Int, v = .int k ∧ (k = 1 ∨ k = -1) := by
        simp only [List.mem_cons, List.not_mem_nil, or_false] at hv
        rcases hv with rfl | rfl | rfl <;> exact ⟨_, rfl, by decide⟩
      have hz : (r * k).natAbs < 2 ^ 200 := by
        rcases k0 with rfl | rfl <;> omega
      refine ⟨_, _, rfl, rfl, mul_ok (by omega) (by omega), _, rfl, Nat.lt_of_lt_of_le (PySem.Flt.log2_lt_of (by decide) hz) (by decide), _, rfl, _, rfl, _, rfl, PySem.int_text_fits (Nat.lt_of_lt_of_le (PySem.Flt.log2_lt_of (by decide) hz) (by decide)), ?_⟩
      exact q _ _ (((c1.trans c2).trans c3).trans c4) (B4.mono (by omega)) (len_cut _ m0) (worth_cut (worth_int _) m0)
    · refine ⟨_, rfl, rfl, _, rfl, ite2 (fun e2 => ?_) (fun e2 => ?_)⟩
      · -- near ones
        refine ⟨Evl.sz_of (by decide), fun p hp => ?_⟩
        generalize hxs : HO.lst _ = o
        have hp1 : (upd H1 p o) p = some o := upd_same
        have bp := B1.ne hp
        refine ⟨_, rfl, ?_⟩
        refine rd_draw (N := N + 1) rfl (fun R h => h) (by decide) (by decide) (by omega) (B1.new hp) fun H2 r c2 B2 r0 r1 => ?_
        have hp2 := c2 _ _ bp.symm hp1
        rw [← hxs] at hp2
        obtain ⟨v, hv, ev⟩ := at_lt (xs := ([.str "07", .str "-0", .str "+1", .str "1a", .str "-", .str "--5", .str "+-3x", .str "00", .str "1 ", .str "1.0", .str "-01", .str "-5-", .str "+", .str "0x1", .str "- 5", .str "1e3"] : List V)) r0 r1
        obtain ⟨x, rfl, hx, hl⟩ : ∃ x : Str, v = .str x ∧ WorthS x ∧ x.length ≤ 9 := by
          have key : ∀ v ∈ ([.str "07", .str "-0", .str "+1", .str "1a", .str "-", .str "--5", .str "+-3x", .str "00", .str "1 ", .str "1.0", .str "-01", .str "-5-", .str "+", .str "0x1", .str "- 5", .str "1e3"] : List V), ∃ x : Str, v = .str x ∧ WorthS x ∧ x.length ≤ 9 := by
            intro v hv
            simp only [List.mem_cons, List.not_mem_nil, or_false] at hv
            rcases hv with rfl | rfl | rfl | rfl | rfl | rfl | rfl | rfl | rfl | rfl | rfl | rfl | rfl | rfl | rfl | rfl <;> exact ⟨_, rfl, by decide +kernel, by decide +kernel⟩
          exact key v hv
        refine ⟨p, _, r, _, rfl, rfl, .inl (.inl hp2), ev, ?_⟩
        refine ⟨_, rfl, _, rfl, x, rfl, Evl.sz_of (by omega), ?_⟩
        exact q _ _ ((c1.trans (.new hp)).trans c2) (B2.mono (by omega)) (len_cut _ m0) (worth_cut hx m0)
      · refine ⟨_, rfl, rfl, _, rfl, ite2 (fun e3 => ?_) (fun e3 => ?_)⟩
        · -- joints
          refine ⟨Evl.sz_of (by decide), fun p hp => ?_⟩
          generalize hxs : HO.lst _ = o
          have hp1 : (upd H1 p o) p = some o := upd_same
          have bp := B1.ne hp
          have cp : Chg b H1 (upd H1 p o) := .new hp
          refine ⟨⟨_, rfl⟩, ?_⟩
          refine rd_draw (N := N + 1) rfl (fun R h => h) (by decide) (by decide) (by omega) (B1.new hp) fun H2 n c2 B2 n0 n1 => ?_
          refine ⟨_, _, rfl, rfl, _, rfl, by omega, by omega, fun D hD => ?_⟩
          have hp2 := c2 _ _ bp.symm hp1
          rw [← hxs] at hp2
          refine lc_draws (N := N + 2) (c := 1) (n := (1 + n).toNat) (fun v => ∃ x : Str, v = .str x ∧ WorthS x ∧ x.length ≤ 9) (by omega) hD B2 (fun H3 M k c3 B3 hM R q3 => ?_) (by decide) (fun H3 ys yl hy c3 B3 e3 => ?_)
          · refine ⟨_, rfl, ?_⟩
            refine rd_draw (N := M) rfl (fun R h => h) (by decide) (by decide) (by omega) B3 fun H4 r c4 B4 r0 r1 => ?_
            obtain ⟨v, hv, ev⟩ := at_lt (xs := ([.str "; ", .str ":", .str "=", .str ",", .str "|", .str "|  ", .str ")", .str "(", .str "\"", .str "\"\"", .str ")=\"", .str "; write 1", .str "=\"", .str "x", .str " "] : List V)) r0 r1
            have key : ∀ v ∈ ([.str "; ", .str ":", .str "=", .str ",", .str "|", .str "|  ", .str ")", .str "(", .str "\"", .str "\"\"", .str ")=\"", .str "; write 1", .str "=\"", .str "x", .str " "] : List V), ∃ x : Str, v = .str x ∧ WorthS x ∧ x.length ≤ 9 := by
              intro v hv
              simp only [List.mem_cons, List.not_mem_nil, or_false] at hv
              rcases hv with rfl | rfl | rfl | rfl | rfl | rfl | rfl | rfl | rfl | rfl | rfl | rfl | rfl | rfl | rfl <;> exact ⟨_, rfl, by decide +kernel, by decide +kernel⟩
            exact ⟨p, _, r, _, rfl, rfl, .inl (.inl (c4 _ _ bp.symm (c3 _ _ bp.symm hp2))), ev, q3 _ _ c4 B4 (key v hv)⟩
          · obtain ⟨zs, rfl, hz⟩ := strs_of hy
            have hs := sum_le (c := 9) fun z h => (hz z h).2
            have he : (Str.ofString "").length = 0 := by decide +kernel
            rw [List.length_map] at yl
            refine ⟨_, D, zs, rfl, rfl, .inl (.inl (.inl e3)), (by rw [he]; omega), ?_⟩
            have hlen : (Txt.join (Str.ofString "") zs).length ≤ 9 * zs.length := by
              refine Nat.le_trans (Nat.le_of_eq ?_) hs
              rw [len_tl, tl_join0 empty_tl, List.length_flatten, List.map_map]
              exact congrArg List.sum (List.map_congr_left fun z _ => (len_tl z).symm)
            refine ⟨_, rfl, _, rfl, _, rfl, Evl.sz_of (by omega), ?_⟩
            exact q _ _ (((c1.trans cp).trans c2).trans c3) (B3.mono (by omega)) (len_cut _ m0) (worth_cut (worth_join empty_tl fun z h => (hz z h).1) m0)
        · -- of few signs, of any
          have l3 : 3 ≤ lot ∧ lot ≤ 5 := by
            have h1 := of_decide_eq_false (Bool.eq_false_iff.mpr e)
            have h2 := of_decide_eq_false (Bool.eq_false_iff.mpr e2)
            have h3 := of_decide_eq_false (Bool.eq_false_iff.mpr e3)
            have h2' : lot ≠ 2 := fun z => h2 (congrArg V.int z)
            have h3' : lot ≠ 6 := fun z => h3 (congrArg V.int z)
            omega
          refine ⟨rfl, Evl.sz_of (by decide), fun p hp => ?_⟩
          have cp : Chg b H1 (upd H1 p (.lst [.str "0123456789+-a ", .str "ab", .str lawSigns])) := .new hp
          have bp := B1.ne hp
          refine ⟨_, rfl, _, _, rfl, rfl, ?_⟩
          obtain ⟨v, hv, ev⟩ := at_lt (xs := ([.str "0123456789+-a ", .str "ab", .str lawSigns] : List V)) (r := lot - 3) (by omega) (by show lot - 3 < 3; omega)
          obtain ⟨x, rfl, hx, hl⟩ : ∃ x : Str, v = .str x ∧ WorthS x ∧ 0 < x.length ∧ x.length ≤ 100 := by
            simp only [List.mem_cons, List.not_mem_nil, or_false] at hv
            rcases hv with rfl | rfl | rfl <;> exact ⟨_, rfl, by decide +kernel, by decide +kernel, by decide +kernel⟩
          refine ⟨p, _, _, _, rfl, rfl, .inl (.inl upd_same), ev, ?_⟩
          refine rd_draw (N := N + 1) rfl (fun R h => ⟨_, rfl, _, _, rfl, rfl, h⟩) (by omega) (by omega) (by omega) (B1.new hp) fun H2 r c2 B2 r0 r1 => ?_
          refine ⟨Evl.sz_of (by show 3 ≤ 100000; decide), fun p2 hp2 => ?_⟩
          have bp2 := B2.ne hp2
          refine rd_draw (N := N + 2) rfl (fun R h => h) (by decide) (by decide) (by omega) (B2.new hp2) fun H3 r3 c3 B3 r30 r31 => ?_
          obtain ⟨v, hv, ev⟩ := at_lt (xs := ([.int 1, .int 2, .int r] : List V)) r30 r31
          obtain ⟨k, rfl, k0⟩ : ∃ k : Int, v = .int k ∧ 0 ≤ k := by
            simp only [List.mem_cons, List.not_mem_nil, or_false] at hv
            rcases hv with rfl | rfl | rfl
            · exact ⟨1, rfl, by decide⟩
            · exact ⟨2, rfl, by decide⟩
            · exact ⟨r, rfl, r0⟩
          have hp23 : H3 p2 = some (.lst [.int 1, .int 2, .int r]) := c3 _ _ bp2.symm upd_same
          refine ⟨p2, _, _, _, rfl, rfl, .inl (.inl hp23), ev, ?_⟩
          refine ⟨⟨_, rfl⟩, ?_⟩
          refine ⟨_, rfl, _, rfl, _, _, rfl, ?_⟩
          obtain ⟨n, hn, n0, nm⟩ : ∃ n, n = (if m < k then m else k) ∧ 0 ≤ n ∧ n ≤ m := ⟨_, rfl, by split <;> omega, by split <;> omega⟩
          rw [← hn]
          refine ⟨_, rfl, by omega, by omega, fun D hD => ?_⟩
          refine lc_draws (N := N + 3) (c := 1) (n := n.toNat) (fun v => ∃ y : Str, v = .str y ∧ WorthS y ∧ y.length = 1) (by omega) hD B3 (fun H4 M kk c4 B4 hM R q4 => ?_) (by decide) (fun H4 ys yl hy c4 B4 e4 => ?_)
          · refine ⟨_, rfl, ?_⟩
            refine rd_draw (m := x.length) (N := M) rfl (fun R h => ⟨_, rfl, x, rfl, Evl.sz_of (by omega), h⟩) (by omega) (by omega) (by omega) B4 fun H5 j c5 B5 j0 j1 => ?_
            obtain ⟨c, hc, ec⟩ := at_lt (xs := tl x) j0 (by rw [← len_tl]; exact j1)
            exact ⟨x, j, c, rfl, rfl, Evl.sz_of (by omega), ec, q4 _ _ c5 B5 ⟨_, rfl, worth_sign (hx c hc), rfl⟩⟩
          · obtain ⟨zs, rfl, hz⟩ := strs_of hy
            have hs := sum_le (c := 1) fun z h => Nat.le_of_eq (hz z h).2
            have he : (Str.ofString "").length = 0 := by decide +kernel
            rw [List.length_map] at yl
            refine ⟨_, D, zs, rfl, rfl, .inl (.inl (.inl e4)), (by rw [he]; omega), ?_⟩
            have hlen := len_join1 (e := Str.ofString "") empty_tl fun z h => (hz z h).2
            exact q _ _ ((((c1.trans cp).trans c2).trans ((Chg.new hp2).trans c3)).trans c4) (B4.mono (by omega)) (by omega) (worth_join empty_tl fun z h => (hz z h).1)
theorem ok_signs_ahead (T : Txt K mg A) : FnOk P w K mg base CX0 1 A.a_signs_ahead A.d_signs_ahead ["worth", "some"] spAhead := by
  refine T.F_signs_ahead.ok sc_signs_ahead (fun vs H Q E h => ?_) (fun cdv A outer s H vs Q E hr h => ?_)
  · obtain ⟨x, z, rfl, _⟩ := h
    rfl
  · obtain ⟨x, z, rfl, hl, q⟩ := h
    refine ⟨_, (pss_cons (ps_set (i := 2) sc_signs_ahead.nd rfl (.inl rfl) pe_int)
      (pss_cons (ps_while PassesOwn.never (PW.pt (pw_and (pt_cmpR op_lt (pv 2) (pe_callB call_len_str (by rfl) T.n_len PySem.boot_len (pa_cons (pv 0) pa_nil)) (nomark _)) (pw_and1 (pt_cmpR op_inS (pe_ix ix_str (pv 0) (pv 2) (fun _ _ => rfl)) (pv 1) (by rfl)))))
      (pss_one (ps_aug (i := 2) sc_signs_ahead.nd rfl (.inl rfl) pe_int ip_add)))
      (pss_one (ps_ret (pv 2))))), ?_⟩
    have hx := len_tl x
    refine ⟨fun m σ H' => ∃ pre rest, tl x = pre ++ rest ∧ (∀ c ∈ pre, decide (c ∈ tl z) = true) ∧ m = rest.length ∧ H' = H ∧ σ = [some (.str x), some (.str z), some (.int (pre.length : Int))], ⟨_, [], tl x, rfl, (fun _ h => nomatch h), rfl, rfl, rfl⟩, ?_⟩
    rintro m σ H' ⟨pre, rest, e, hp, rfl, rfl, rfl⟩
    refine ⟨_, rfl, _, rfl, x, rfl, Evl.sz_of hl, _, _, rfl, rfl, _, rfl, ?_⟩
    cases rest with
    | nil =>
      have hle : ¬ ((pre.length : Int) < (x.length : Int)) := by rw [hx, e, List.append_nil]; omega
      rw [decide_eq_false hle]
      refine iteF (iteF ⟨_, rfl, ?_⟩)
      have e2 := (takeWhile_pre (p := fun c => decide (c ∈ tl z)) hp (.inl rfl)).1
      unfold aheadL at q
      rw [e, e2] at q
      exact q
    | cons c r =>
      have hlt : (pre.length : Int) < (x.length : Int) := by rw [hx, e, List.length_append, List.length_cons]; omega
      rw [decide_eq_true hlt]
      have hc : atI (tl x) (pre.length : Int) = some c := atI_nat (by rw [e, List.getElem?_append_right (Nat.le_refl _), Nat.sub_self]; rfl)
      refine iteT ⟨_, rfl, _, rfl, x, _, c, rfl, rfl, Evl.sz_of hl, hc, _, rfl, c, z, rfl, rfl, _, rfl, ?_⟩
      by_cases hz : c ∈ tl z
      · rw [decide_eq_true hz]
        refine iteT ⟨_, fun σ' H' h => h, ?_⟩
        refine ⟨_, rfl, _, _, rfl, rfl, r.length, Nat.lt_succ_self _, pre ++ [c], r, by rw [e]; simp, fun d hd => ?_, rfl, rfl, ?_⟩
        · rcases List.mem_append.mp hd with hd | hd
          · exact hp d hd
          · rw [List.mem_singleton.mp hd]; exact decide_eq_true hz
        · rw [List.length_append]
          rfl
      · rw [decide_eq_false hz]
        refine iteF ⟨_, rfl, ?_⟩
        have e2 := (takeWhile_pre (p := fun c => decide (c ∈ tl z)) hp (.inr ⟨c, r, rfl, decide_eq_false hz⟩)).1
        unfold aheadL at q
        rw [e, e2] at q
        exact q
theorem ok_number_of (T : Txt K mg A) : FnOk P w K mg base CX0 2 A.a_number_of A.d_number_of ["worth"] spNumberOf := by
  have G_signs_ahead := ok_signs_ahead (P := P) (w := w) (base := base) T
  refine T.F_number_of.ok sc_number_of (fun vs H Q E h => ?_) (fun cdv A outer s H vs Q E hr h => ?_)
  · obtain ⟨x, rfl, _⟩ := h
    rfl
  · obtain ⟨x, rfl, hl, q⟩ := h
    refine ⟨_, (pss_cons (ps_set (i := 1) sc_number_of.nd rfl (.inl rfl) (pe_call G_signs_ahead (hr.mono (by decide)) (by rfl) T.g_signs_ahead T.F_signs_ahead.kp T.b_signs_ahead .nil pass0 (pa_cons (pv 0) (pa_cons pe_str pa_nil))))
      (pss_cons (ps_set (i := 2) sc_number_of.nd rfl (.inl rfl) (pe_slice sl_str (pv 0) (po_some (pv 1)) (po_some (pe_op op_add (pv 1) (pe_call G_signs_ahead (hr.mono (by decide)) (by rfl) T.g_signs_ahead T.F_signs_ahead.kp T.b_signs_ahead .nil pass0 (pa_cons (pe_slice sl_str (pv 0) (po_some (pv 1)) po_none) (pa_cons (pe_glob (v := .str (Str.ofString "0123456789")) rfl T.c_FIGURES ⟨_, rfl⟩) pa_nil)))))))
      (pss_cons (ps_set (i := 3) sc_number_of.nd rfl (.inl rfl) (pe_ifExp (pt_cmpR op_ne (pv 2) pe_str (nomark _)) (pe_callTy call_int_str (by rfl) T.n_int (by decide +kernel) (pa_cons (pv 2) pa_nil)) pe_int))
      (pss_one (ps_ret (pe_ifExp (pt_cmpR op_eq (pe_op op_mod (pe_m1 PySem.F.slot_str_count PySem.F.type_str_count mt_count (pe_slice sl_str (pv 0) po_none (po_some (pv 1))) pe_str) pe_int) pe_int (nomark _)) (pe_op op_sub pe_int (pv 3)) (pv 3))))))), ?_⟩
    have hx := len_tl x
    have em := ahead_marks (tl x)
    have dw : (tl x).drop (marksOf (tl x)).length = (tl x).dropWhile isMark := by
      have h1 := List.takeWhile_append_dropWhile (p := isMark) (l := tl x)
      have h2 := congrArg (List.drop (marksOf (tl x)).length) h1
      rw [show List.takeWhile isMark (tl x) = marksOf (tl x) from rfl, List.drop_left] at h2
      exact h2.symm
    have tw : (tl x).take (marksOf (tl x)).length = marksOf (tl x) := by
      have h1 := List.takeWhile_append_dropWhile (p := isMark) (l := tl x)
      have h2 := congrArg (List.take (marksOf (tl x)).length) h1
      rw [show List.takeWhile isMark (tl x) = marksOf (tl x) from rfl, List.take_left] at h2
      exact h2.symm
    refine ⟨_, rfl, x, _, rfl, Nat.le_trans hl (by decide), ?_⟩
    refine ⟨_, rfl, _, rfl, _, rfl, _, rfl, ?_⟩
    refine ⟨_, rfl, _, rfl, _, rfl, x, rfl, Evl.sz_of (by omega), _, _, rfl, ?_, ?_⟩
    · exact Nat.le_trans (cutS_length x _ _) (by omega)
    rw [em, cut_from, dw, ahead_figs]
    refine ⟨_, _, rfl, rfl, _, rfl, x, rfl, Evl.sz_of (by omega), ?_⟩
    have ef : tl (cutS x (some ((marksOf (tl x)).length : Int)) (some (((marksOf (tl x)).length : Int) + (((tl x).dropWhile isMark).takeWhile isFig).length))) = figsOf (tl x) := by
      rw [show (((marksOf (tl x)).length : Int) + (((tl x).dropWhile isMark).takeWhile isFig).length) = (((marksOf (tl x)).length + (((tl x).dropWhile isMark).takeWhile isFig).length : Nat) : Int) by omega, cut_mid, dw, Nat.add_sub_cancel_left]
      have h1 := List.takeWhile_append_dropWhile (p := isFig) (l := (tl x).dropWhile isMark)
      have h2 := congrArg (List.take (((tl x).dropWhile isMark).takeWhile isFig).length) h1
      rw [List.take_left] at h2
      exact h2.symm
    generalize hf : cutS x _ _ = f
    rw [hf] at ef
    have hfl : f.length ≤ 640 := by rw [← hf]; exact Nat.le_trans (cutS_length x _ _) hl
    have hfd : PySem.NumText.AllDigits (tl f) := by
      rw [ef]
      exact fun c hc => isFig_iff.mp (mem_takeWhile hc)
    refine ⟨_, rfl, rfl, _, rfl, ?_⟩
    have last : ∀ n : Int, n = (PySem.NumText.digitsVal (figsOf (tl x)) : Int) → tSeq (tAsg (tC (.int n)) (gName 3)) (tRet (tIf (tTest (tOp rEq (tOp (rI (fun _ j => 0 < j) fun i j => .int (i % j)) (tM1 (fun x xs H Q => ∃ a b, x = V.str a ∧ xs = [V.str b] ∧ Q (.int (Txt.count a b)) H) (tSl rSlS (tVar 0) tNoPart (tPart (tVar 1))) (tC (.str "-"))) (tC (.int 2))) (tC (.int 1)))) (tOp (rI0 fun i j => .int (i - j)) (tC (.int 0)) (tVar 3)) (tVar 3)))
        { nx := fun _ H' => Q .non H', rt := Q } [some (.str x), some (.int ((marksOf (tl x)).length : Int)), some (.str f), none] H := by
      intro n hn
      refine ⟨_, rfl, _, rfl, _, rfl, x, rfl, Evl.sz_of (by omega), ⟨_, rfl⟩, _, _, rfl, rfl, _, _, rfl, rfl, (show (0 : Int) < 2 by decide), rfl, _, rfl, ?_⟩
      have ec : Txt.count (cutS x none (some ((marksOf (tl x)).length : Int))) (Str.ofString "-") = ((marksOf (tl x)).count 45 : Int) := by
        rw [show Str.ofString "-" = ⟨#[45]⟩ by decide +kernel, count_one, cut_toN, tw]
      rw [ec]
      refine ite2 (fun e => ?_) (fun e => ?_)
      · have e2 : (marksOf (tl x)).count 45 % 2 = 1 := by
          have := V.int.inj (of_decide_eq_true e)
          omega
        refine ⟨_, rfl, _, _, rfl, rfl, ?_⟩
        have er : numS x = 0 - n := by unfold numS numL; rw [if_pos e2, hn]
        rw [er] at q
        exact q
      · have e2 : ¬ (marksOf (tl x)).count 45 % 2 = 1 := by
          intro z
          refine e (decide_eq_true (congrArg V.int ?_))
          show ((marksOf (tl x)).count 45 : Int) % 2 = 1
          omega
        refine ⟨_, rfl, ?_⟩
        have er : numS x = n := by unfold numS numL; rw [if_neg e2, hn]
        rw [er] at q
        exact q
    refine ite2 (fun e => ?_) (fun e => ?_)
    · have hne : tl f ≠ [] := by
        intro z
        have : f = Str.ofString "" := tl_inj (by rw [z, empty_tl])
        subst this
        exact absurd e (by decide)
      refine ⟨_, rfl, f, _, rfl, PySem.intText_digits hfd hne (by omega), hfl, ?_⟩
      exact last _ (by rw [← ef])
    · have hz : f = Str.ofString "" := by
        refine Decidable.byContradiction fun z => e ?_
        rw [decide_eq_false (fun y => z (V.str.inj y))]
        rfl
      refine last 0 ?_
      rw [← ef, hz, empty_tl]
      rfl
theorem ok_number_text (T : Txt K mg A) : FnOk P w K mg base CX0 1 A.a_number_text A.d_number_text ["number"] spNumberText := by
  refine T.F_number_text.ok sc_number_text (fun vs H Q E h => ?_) (fun cdv A outer s H vs Q E hr h => ?_)
  · obtain ⟨n, rfl, _⟩ := h
    rfl
  · obtain ⟨n, rfl, hl, q⟩ := h
    refine ⟨_, (pss_one (ps_ret (pe_callTy call_str_int (by rfl) T.n_str (by decide +kernel) (pa_cons (pv 0) pa_nil)))), ?_⟩
    exact ⟨_, rfl, n, rfl, hl, q⟩
theorem ok_is_number_text (T : Txt K mg A) : FnOk P w K mg base CX0 2 A.a_is_number_text A.d_is_number_text ["worth"] spIsNumber := by
  have G_signs_ahead := ok_signs_ahead (P := P) (w := w) (base := base) T
  refine T.F_is_number_text.ok sc_is_number_text (fun vs H Q E h => ?_) (fun cdv A outer s H vs Q E hr h => ?_)
  · obtain ⟨x, rfl, _⟩ := h
    rfl
  · obtain ⟨x, rfl, hl, q⟩ := h
    refine ⟨_, (pss_cons (ps_set (i := 1) sc_is_number_text.nd rfl (.inl rfl) (pe_ifExp (pt_cmpR op_eq (pe_slice sl_str (pv 0) po_none (po_some pe_int)) pe_str (nomark _)) (pe_slice sl_str (pv 0) (po_some pe_int) po_none) (pv 0)))
      (pss_cons (ps_if (PW.pt (pw_or (pt_cmpR op_eq (pv 1) pe_str (nomark _)) (pw_or1 (pt_cmpR op_lt (pe_call G_signs_ahead (hr.mono (by decide)) (by rfl) T.g_signs_ahead T.F_signs_ahead.kp T.b_signs_ahead .nil pass0 (pa_cons (pv 1) (pa_cons (pe_glob (v := .str (Str.ofString "0123456789")) rfl T.c_FIGURES ⟨_, rfl⟩) pa_nil))) (pe_callB call_len_str (by rfl) T.n_len PySem.boot_len (pa_cons (pv 1) pa_nil)) (nomark _)))))
      (pss_one (ps_ret pe_bl))
      pss_nil)
      (pss_one (ps_ret (pe_or (pe_cmpR op_eq (pv 0) pe_str (nomark _)) (pe_one (pe_cmpR op_ne (pe_ix ix_str (pv 1) pe_int (fun _ _ => rfl)) pe_str (nomark _)))))))), ?_⟩
    have rest : ∀ f : Str, f.length ≤ 100000 → tl f = (if (tl x).take 1 = [45] then (tl x).drop 1 else tl x) →
        tIfS (tOr (tTest (tOp rEq (tVar 1) (tC (.str "")))) (tTest (tOp (rI0 fun i j => .bl (decide (i < j))) (tCall spAhead [] E0 (tCons (tVar 1) (tCons (tC (.str "0123456789")) tNil))) (tCB (fun xs H Q => ∃ z, xs = [V.str z] ∧ z.length ≤ sizeLine ∧ Q (V.int z.length) H) (tCons (tVar 1) tNil)))))
          (tRet (tC (.bl false))) tNext { nx := fun σ H => tRet (tOrV (tOp rEq (tVar 0) (tC (.str "0"))) (tOp rNe (tOp rIxS (tVar 1) (tC (.int 0))) (tC (.str "0")))) { nx := fun _ H' => Q .non H', rt := Q } σ H, rt := Q } [some (.str x), some (.str f)] H := by
      intro f hf ef
      have hfl := len_tl f
      refine ⟨_, rfl, rfl, _, rfl, ite2 (fun e => ?_) (fun e => ?_)⟩
      · have e1 : f = Str.ofString "" := V.str.inj (of_decide_eq_true e)
        refine iteT ?_
        have er : isNumS x = false := by
          unfold isNumS isNumL
          rw [← ef, e1, empty_tl]
          rfl
        rw [er] at q
        exact q
      · have hne : tl f ≠ [] := by
          intro z
          have : f = Str.ofString "" := tl_inj (by rw [z, empty_tl])
          subst this
          exact e (decide_eq_true rfl)
        refine ⟨_, rfl, f, _, rfl, hf, ?_⟩
        rw [ahead_figs]
        refine ⟨_, rfl, f, rfl, Evl.sz_of hf, _, _, rfl, rfl, _, rfl, ite2 (fun e2 => ?_) (fun e2 => ?_)⟩
        · have e3 : ((tl f).takeWhile isFig).length < (tl f).length := by
            have := of_decide_eq_true e2
            omega
          have er : isNumS x = false := by
            unfold isNumS isNumL isNumF
            rw [← ef, if_pos (.inr e3)]
          rw [er] at q
          exact q
        · have e3 : ¬ ((tl f).takeWhile isFig).length < (tl f).length := by
            have := of_decide_eq_false (Bool.eq_false_iff.mpr e2)
            omega
          obtain ⟨c, r, ec⟩ : ∃ c r, tl f = c :: r := by
            cases h : tl f with
            | nil => exact absurd h hne
            | cons c r => exact ⟨c, r, rfl⟩
          have er : isNumS x = (tl x == [48] || !((tl f).head? == some 48)) := by
            unfold isNumS isNumL isNumF
            rw [← ef, if_neg (fun z => z.elim hne e3)]
          have hd : decide (V.str x = V.str (Str.ofString "0")) = (tl x == [48]) := by
            rw [Bool.eq_iff_iff, decide_eq_true_eq, beq_iff_eq]
            exact ⟨fun z => by rw [V.str.inj z]; decide +kernel, fun z => congrArg V.str (tl_inj (by rw [z]; decide +kernel))⟩
          refine ⟨_, rfl, rfl, _, rfl, ?_⟩
          rw [hd]
          refine ite2 (fun e4 => ?_) (fun e4 => ?_)
          · rw [er, e4] at q
            exact q
          · refine ⟨_, rfl, f, 0, c, rfl, rfl, Evl.sz_of hf, atI_nat (j := 0) (by show (tl f)[0]? = _; rw [ec]; rfl), rfl, ?_⟩
            have h2 : (!decide (V.str ⟨#[c]⟩ = V.str (Str.ofString "0"))) = !((tl f).head? == some 48) := by
              rw [ec, Bool.eq_iff_iff, Bool.not_eq_true', Bool.not_eq_true', decide_eq_false_iff_not, beq_eq_false_iff_ne]
              have h3 : (V.str ⟨#[c]⟩ = V.str (Str.ofString "0")) ↔ c = 48 := by
                rw [show Str.ofString "0" = ⟨#[48]⟩ by decide +kernel]
                exact ⟨fun z => by
                  have := congrArg tl (V.str.inj z)
                  exact (List.cons.inj this).1, fun z => by rw [z]⟩
              rw [h3]
              exact ⟨fun z y => z (Option.some.inj y), fun z y => z (by rw [y]; rfl)⟩
            rw [h2]
            rw [er, Bool.eq_false_iff.mpr e4] at q
            exact q
    refine ⟨_, rfl, _, rfl, x, rfl, Evl.sz_of hl, rfl, _, rfl, ite2 (fun e => ?_) (fun e => ?_)⟩
    · have e1 : (tl x).take 1 = [45] := by
        have := congrArg tl (V.str.inj (of_decide_eq_true e))
        rw [show tl (cutS x none (some 1)) = (tl x).take 1 from cut_toN x 1] at this
        exact this.trans (by decide +kernel)
      refine ⟨_, rfl, _, rfl, x, rfl, Evl.sz_of hl, ?_⟩
      exact rest _ (Nat.le_trans (cutS_length x _ _) hl) (by rw [if_pos e1]; exact cut_from x 1)
    · have e1 : (tl x).take 1 ≠ [45] := by
        intro z
        refine e (decide_eq_true (congrArg V.str (tl_inj ?_)))
        rw [show tl (cutS x none (some 1)) = (tl x).take 1 from cut_toN x 1, z]
        decide +kernel
      refine ⟨_, rfl, ?_⟩
      exact rest x hl (by rw [if_neg e1])
theorem ok_law_number (T : Txt K mg A) : FnOk P w K mg base CX0 1 A.a_law_number A.d_law_number ["worth"] spLawNumber := by
  refine T.F_law_number.ok sc_law_number (fun vs H Q E h => ?_) (fun cdv A outer s H vs Q E hr h => ?_)
  · obtain ⟨x, rfl, _⟩ := h
    rfl
  · obtain ⟨x, rfl, hl, q⟩ := h
    refine ⟨_, (pss_cons (ps_set (i := 1) sc_law_number.nd rfl (.inl rfl) pe_int)
      (pss_cons (ps_set (i := 2) sc_law_number.nd rfl (.inl rfl) pe_int)
      (pss_cons (ps_while PassesOwn.never (PW.pt (pw_and (pt_cmpR op_lt (pv 1) (pe_callB call_len_str (by rfl) T.n_len PySem.boot_len (pa_cons (pv 0) pa_nil)) (nomark _)) (pw_and1 (pt_cmpR op_inS (pe_ix ix_str (pv 0) (pv 1) (fun _ _ => rfl)) pe_str (by rfl)))))
      (pss_cons (ps_set (i := 2) sc_law_number.nd rfl (.inl rfl) (pe_op op_add (pv 2) (pe_callTy call_int1 (by rfl) T.n_int (by decide +kernel) (pa_cons (pe_cmpR op_eq (pe_ix ix_str (pv 0) (pv 1) (fun _ _ => rfl)) pe_str (nomark _)) pa_nil))))
      (pss_one (ps_set (i := 1) sc_law_number.nd rfl (.inl rfl) (pe_op op_add (pv 1) pe_int)))))
      (pss_cons (ps_set (i := 3) sc_law_number.nd rfl (.inl rfl) pe_int)
      (pss_cons (ps_while PassesOwn.never (PW.pt (pw_and (pt_cmpR op_lt (pv 1) (pe_callB call_len_str (by rfl) T.n_len PySem.boot_len (pa_cons (pv 0) pa_nil)) (nomark _)) (pw_and1 (pt_cmpR op_inS (pe_ix ix_str (pv 0) (pv 1) (fun _ _ => rfl)) pe_str (by rfl)))))
      (pss_cons (ps_set (i := 3) sc_law_number.nd rfl (.inl rfl) (pe_op op_add (pe_op op_mulW (pv 3) pe_int) (pe_m1 PySem.F.slot_str_find PySem.F.type_str_find mt_find pe_str (pe_ix ix_str (pv 0) (pv 1) (fun _ _ => rfl)))))
      (pss_one (ps_set (i := 1) sc_law_number.nd rfl (.inl rfl) (pe_op op_add (pv 1) pe_int)))))
      (pss_one (ps_ret (pe_ix (k_ix_list K) (pe_lst (pa_cons (pv 3) (pa_cons (pe_op op_sub pe_int (pv 3)) pa_nil))) (pe_op op_mod (pv 2) pe_int) (fun _ _ => rfl))))))))), ?_⟩
    have hx := len_tl x
    have hsz : x.length ≤ sizeLine := Evl.sz_of (by omega)
    -- the marks
    refine ⟨fun m σ H' => ∃ pre rest, tl x = pre ++ rest ∧ (∀ c ∈ pre, isMark c = true) ∧ m = rest.length ∧ H' = H ∧ σ = [some (.str x), some (.int (pre.length : Int)), some (.int (pre.count 45 : Int)), none], ⟨_, [], tl x, rfl, (fun _ h => nomatch h), rfl, rfl, rfl⟩, ?_⟩
    rintro m σ H' ⟨pre, rest, e, hp, rfl, rfl, rfl⟩
    -- what comes behind the marks
    have figs : rest = [] ∨ (∃ c r, rest = c :: r ∧ isMark c = false) → tSeq (tAsg (tC (.int 0)) (gName 3)) (tSeq (tWhile (tAnd (tTest (tOp (rI0 fun i j => .bl (decide (i < j))) (tVar 1) (tCB (fun xs H Q => ∃ z, xs = [V.str z] ∧ z.length ≤ sizeLine ∧ Q (V.int z.length) H) (tCons (tVar 0) tNil)))) (tTest (tOp rInS (tOp rIxS (tVar 0) (tVar 1)) (tC (.str "0123456789")))))
          (tSeq (tAsg (tOp (rI0 fun i j => .int (i + j)) (tOp (rI CMulW fun i j => .int (i * j)) (tVar 3) (tC (.int 10))) (tM1 (fun x xs H Q => ∃ a b, x = V.str a ∧ xs = [V.str b] ∧ Q (V.int (Txt.find a b)) H) (tC (.str "0123456789")) (tOp rIxS (tVar 0) (tVar 1)))) (gName 3)) (tAsg (tOp (rI0 fun i j => .int (i + j)) (tVar 1) (tC (.int 1))) (gName 1))))
        (tRet (tOp (rIxL K) (tLst (tCons (tVar 3) (tCons (tOp (rI0 fun i j => .int (i - j)) (tC (.int 0)) (tVar 3)) tNil))) (tOp (rI (fun _ j => 0 < j) fun i j => .int (i % j)) (tVar 2) (tC (.int 2))))))
        { nx := fun _ H' => Q .non H', rt := Q } [some (.str x), some (.int (pre.length : Int)), some (.int (pre.count 45 : Int)), none] H' := by
      intro hr
      obtain ⟨e1, e2⟩ := takeWhile_pre (p := isMark) hp hr
      rw [← e] at e1 e2
      refine ⟨fun m σ H2 => ∃ p2 r2, rest = p2 ++ r2 ∧ (∀ c ∈ p2, isFig c = true) ∧ m = r2.length ∧ H2 = H' ∧ σ = [some (.str x), some (.int ((pre.length + p2.length : Nat) : Int)), some (.int (pre.count 45 : Int)), some (.int (PySem.NumText.digitsVal p2 : Int))], ⟨_, [], rest, rfl, (fun _ h => nomatch h), rfl, rfl, rfl⟩, ?_⟩
      rintro m σ H2 ⟨p2, r2, f, hp2, rfl, rfl, rfl⟩
      have hlen : x.length = pre.length + p2.length + r2.length := by rw [hx, e, f, List.length_append, List.length_append]; omega
      have hd2 : PySem.NumText.AllDigits p2 := fun c hc => isFig_iff.mp (hp2 c hc)
      have fin : r2 = [] ∨ (∃ c r, r2 = c :: r ∧ isFig c = false) → tRet (tOp (rIxL K) (tLst (tCons (tVar 3) (tCons (tOp (rI0 fun i j => .int (i - j)) (tC (.int 0)) (tVar 3)) tNil))) (tOp (rI (fun _ j => 0 < j) fun i j => .int (i % j)) (tVar 2) (tC (.int 2))))
          { nx := fun _ H' => Q .non H', rt := Q } [some (.str x), some (.int ((pre.length + p2.length : Nat) : Int)), some (.int (pre.count 45 : Int)), some (.int (PySem.NumText.digitsVal p2 : Int))] H2 := by
        intro hr2
        obtain ⟨f1, f2⟩ := takeWhile_pre (p := isFig) hp2 hr2
        rw [← f] at f1
        have ev : PySem.NumText.digitsVal (figsOf (tl x)) = PySem.NumText.digitsVal p2 := by unfold figsOf; rw [e2, f1]
        have em : marksOf (tl x) = pre := e1
        refine ⟨_, rfl, _, rfl, _, _, rfl, rfl, Evl.sz_of (by show 2 ≤ 100000; decide), fun p hp => ?_⟩
        refine ⟨_, rfl, _, _, rfl, rfl, (show (0 : Int) < 2 by decide), ?_⟩
        have er : atI ([V.int (PySem.NumText.digitsVal p2 : Int), V.int (0 - (PySem.NumText.digitsVal p2 : Int))]) ((pre.count 45 : Int) % 2) = some (.int (numS x)) := by
          unfold numS numL
          rw [em, ev]
          by_cases h : pre.count 45 % 2 = 1
          · rw [if_pos h, show ((pre.count 45 : Int) % 2) = ((1 : Nat) : Int) by omega]
            exact atI_nat rfl
          · rw [if_neg h, show ((pre.count 45 : Int) % 2) = ((0 : Nat) : Int) by omega]
            exact atI_nat rfl
        exact ⟨p, _, _, _, rfl, rfl, .inl (.inl upd_same), er, q _ (same_new hp)⟩
      refine ⟨_, rfl, _, rfl, x, rfl, hsz, _, _, rfl, rfl, _, rfl, ?_⟩
      cases r2 with
      | nil =>
        rw [decide_eq_false (show ¬ ((pre.length + p2.length : Nat) : Int) < (x.length : Int) by rw [hlen, List.length_nil]; omega)]
        exact iteF (iteF (fin (.inl rfl)))
      | cons c r =>
        rw [decide_eq_true (show ((pre.length + p2.length : Nat) : Int) < (x.length : Int) by rw [hlen, List.length_cons]; omega)]
        have hc : atI (tl x) ((pre.length + p2.length : Nat) : Int) = some c := atI_nat (by rw [e, f, ← List.append_assoc, List.getElem?_append_right (by rw [List.length_append]; omega), List.length_append, Nat.sub_self]; rfl)
        refine iteT ⟨_, rfl, _, rfl, x, _, c, rfl, rfl, hsz, hc, c, _, rfl, rfl, _, rfl, ?_⟩
        rw [fig_mem]
        cases hf : isFig c with
        | false => exact iteF (fin (.inr ⟨c, r, rfl, hf⟩))
        | true =>
          have hcf := isFig_iff.mp hf
          refine iteT ⟨_, fun σ' H' h => h, ?_⟩
          refine ⟨_, rfl, _, _, rfl, rfl, val_mul hd2 (by omega), ⟨_, rfl⟩, _, rfl, _, rfl, x, _, c, rfl, rfl, hsz, hc, _, _, rfl, rfl, ?_⟩
          rw [find_fig hcf]
          refine ⟨_, _, rfl, rfl, _, rfl, _, _, rfl, rfl, r.length, Nat.lt_succ_self _, p2 ++ [c], r, by rw [f]; simp, fun d hd => ?_, rfl, rfl, ?_⟩
          · rcases List.mem_append.mp hd with hd | hd
            · exact hp2 d hd
            · rw [List.mem_singleton.mp hd]; exact hf
          · rw [PySem.NumText.digitsVal_snoc, List.length_append, List.length_singleton]
            have h1 : ((PySem.NumText.digitsVal p2 : Nat) : Int) * 10 + ((c - 48 : Nat) : Int) = ((PySem.NumText.digitsVal p2 * 10 + (c - 48) : Nat) : Int) := by omega
            have h2 : ((pre.length + p2.length : Nat) : Int) + 1 = ((pre.length + (p2.length + 1) : Nat) : Int) := by omega
            rw [← h1, ← h2]
            rfl
    have hlen : x.length = pre.length + rest.length := by rw [hx, e, List.length_append]
    refine ⟨_, rfl, _, rfl, x, rfl, hsz, _, _, rfl, rfl, _, rfl, ?_⟩
    cases rest with
    | nil =>
      rw [decide_eq_false (show ¬ (pre.length : Int) < (x.length : Int) by rw [hlen, List.length_nil]; omega)]
      exact iteF (iteF (figs (.inl rfl)))
    | cons c r =>
      rw [decide_eq_true (show (pre.length : Int) < (x.length : Int) by rw [hlen, List.length_cons]; omega)]
      have hc : atI (tl x) (pre.length : Int) = some c := atI_nat (by rw [e, List.getElem?_append_right (Nat.le_refl _), Nat.sub_self]; rfl)
      refine iteT ⟨_, rfl, _, rfl, x, _, c, rfl, rfl, hsz, hc, c, _, rfl, rfl, _, rfl, ?_⟩
      rw [mark_mem]
      cases hf : isMark c with
      | false => exact iteF (figs (.inr ⟨c, r, rfl, hf⟩))
      | true =>
        refine iteT ⟨_, fun σ' H' h => h, ?_⟩
        refine ⟨_, rfl, _, rfl, _, rfl, x, _, c, rfl, rfl, hsz, hc, rfl, .inr ⟨_, rfl, _, _, rfl, rfl, ?_⟩⟩
        refine ⟨_, rfl, _, _, rfl, rfl, r.length, Nat.lt_succ_self _, pre ++ [c], r, by rw [e]; simp, fun d hd => ?_, rfl, rfl, ?_⟩
        · rcases List.mem_append.mp hd with hd | hd
          · exact hp d hd
          · rw [List.mem_singleton.mp hd]; exact hf
        · rw [List.count_append, List.length_append, List.length_singleton]
          rw [show Str.ofString "-" = ⟨#[45]⟩ by decide +kernel, eq_sign]
          have h1 : (pre.count 45 : Int) + (if (c == 45) = true then 1 else 0) = ((pre.count 45 + [c].count 45 : Nat) : Int) := by
            rw [List.count_singleton]
            split <;> omega
          have h2 : (pre.length : Int) + 1 = ((pre.length + 1 : Nat) : Int) := by omega
          rw [← h1, ← h2]
          rfl
theorem ok_law_written (T : Txt K mg A) : FnOk P w K mg base CX0 1 A.a_law_written A.d_law_written ["number"] spWritten := by
  refine T.F_law_written.ok sc_law_written (fun vs H Q E h => ?_) (fun cdv A outer s H vs Q E hr h => ?_)
  · obtain ⟨n, rfl, _⟩ := h
    rfl
  · obtain ⟨n, rfl, hl, q⟩ := h
    refine ⟨_, (pss_cons (ps_set (i := 1) sc_law_written.nd rfl (.inl rfl) (pe_callB call_abs (by rfl) T.n_abs (by decide +kernel) (pa_cons (pv 0) pa_nil)))
      (pss_cons (ps_set (i := 2) sc_law_written.nd rfl (.inl rfl) (pe_ix ix_str pe_str (pe_op op_mod (pv 1) pe_int) (fun _ _ => rfl)))
      (pss_cons (ps_while PassesOwn.never (pt_cmpR op_gt (pv 1) pe_int (nomark _))
      (pss_cons (ps_set (i := 1) sc_law_written.nd rfl (.inl rfl) (pe_op op_fdivW (pv 1) pe_int))
      (pss_one (ps_set (i := 2) sc_law_written.nd rfl (.inl rfl) (pe_op op_add_str (pe_ix ix_str pe_str (pe_op op_mod (pv 1) pe_int) (fun _ _ => rfl)) (pv 2))))))
      (pss_one (ps_ret (pe_op op_add_str (pe_ix (k_ix_list K) (pe_lst (pa_cons pe_str (pa_cons pe_str pa_nil))) (pe_callTy call_int1 (by rfl) T.n_int (by decide +kernel) (pa_cons (pe_cmpR op_lt (pv 0) pe_int (nomark _)) pa_nil)) (fun _ _ => rfl)) (pv 2))))))), ?_⟩
    have ea : (if n < 0 then -n else n) = (n.natAbs : Int) := by split <;> omega
    have fz : (Str.ofString "0123456789").length ≤ sizeLine := by decide +kernel
    have hdl : (decL n.natAbs).length ≤ 10000 := by
      unfold intL at hl
      split at hl
      · rw [List.length_cons] at hl; omega
      · exact hl
    refine ⟨_, rfl, n, rfl, ?_⟩
    rw [ea]
    refine ⟨_, rfl, _, _, rfl, rfl, (show (0 : Int) < 10 by decide), _, _, _, rfl, rfl, fz, item_fig (by omega) (by omega), ?_⟩
    refine ⟨fun m σ H' => ∃ (l : Nat) (f : Str), m = l ∧ H' = H ∧ (l < 10 → tl f = decL n.natAbs) ∧ (10 ≤ l → decL (l / 10) ++ tl f = decL n.natAbs) ∧ σ = [some (.int n), some (.int (l : Int)), some (.str f)], ⟨_, n.natAbs, _, rfl, rfl, fun h => ?_, fun h => ?_, rfl⟩, ?_⟩
    · rw [decL_lt h]
      show [48 + ((n.natAbs : Int) % 10).toNat] = _
      rw [show ((n.natAbs : Int) % 10).toNat = n.natAbs by omega]
    · rw [decL_ge h]
      show _ ++ [48 + ((n.natAbs : Int) % 10).toNat] = _
      rw [show ((n.natAbs : Int) % 10).toNat = n.natAbs % 10 by omega]
    rintro m σ H' ⟨l, f, em, rfl, h1, h2, rfl⟩
    refine ⟨_, rfl, _, _, rfl, rfl, _, rfl, ite2 (fun e => ?_) (fun e => ?_)⟩
    · have e1 : 10 ≤ l := by
        have := of_decide_eq_true e
        omega
      refine ⟨_, fun σ' H' h => h, ?_⟩
      refine ⟨_, rfl, _, _, rfl, rfl, wide_div (b := 8) (by decide) (by decide) (by decide) (by decide), ?_⟩
      have e10 : (l : Int) / 10 = ((l / 10 : Nat) : Int) := by omega
      dsimp only
      rw [e10]
      refine ⟨_, rfl, _, _, rfl, rfl, (show (0 : Int) < 10 by decide), _, _, _, rfl, rfl, fz, item_fig (by omega) (by omega), _, rfl, _, _, rfl, rfl, ?_, ?_⟩
      · have h3 := congrArg List.length (h2 e1)
        rw [List.length_append, ← len_tl] at h3
        exact Evl.sz_of (by show 1 + f.length ≤ 100000; omega)
      · refine ⟨l / 10, by omega, l / 10, _, rfl, rfl, fun h => ?_, fun h => ?_, rfl⟩
        · rw [tl_cat, ← h2 e1, decL_lt h]
          show [48 + (((l / 10 : Nat) : Int) % 10).toNat] ++ tl f = _
          rw [show (((l / 10 : Nat) : Int) % 10).toNat = l / 10 by omega]
        · rw [tl_cat, ← h2 e1, decL_ge h, List.append_assoc]
          show decL (l / 10 / 10) ++ ([48 + (((l / 10 : Nat) : Int) % 10).toNat] ++ tl f) = _
          rw [show (((l / 10 : Nat) : Int) % 10).toNat = l / 10 % 10 by omega]
    · have e1 : l < 10 := by
        have := of_decide_eq_false (Bool.eq_false_iff.mpr e)
        omega
      refine ⟨Evl.sz_of (by show 2 ≤ 100000; decide), fun p hp => ?_⟩
      refine ⟨_, rfl, _, _, rfl, rfl, .inr ⟨_, rfl, ?_⟩⟩
      have ef : tl f = decL n.natAbs := h1 e1
      have hfl := len_tl f
      rw [ef] at hfl
      by_cases hn : n < 0
      · rw [decide_eq_true hn]
        refine ⟨p, _, _, _, rfl, rfl, .inl (.inl upd_same), (atI_nat (j := 1) rfl : atI _ ((1 : Nat) : Int) = _), _, rfl, _, _, rfl, rfl, ?_, ?_⟩
        · rw [show (Str.ofString "-").length = 1 by decide +kernel, hfl]
          exact Evl.sz_of (by omega)
        have er : (Str.ofString "-" ++ f : Str) = intS n := tl_inj (by
          unfold intS
          rw [tl_cat, tl_int, intL_abs, if_pos hn, ef, show tl (Str.ofString "-") = [45] by decide +kernel]
          rfl)
        rw [er]
        exact q _ (same_new hp)
      · rw [decide_eq_false hn]
        refine ⟨p, _, _, _, rfl, rfl, .inl (.inl upd_same), (atI_nat (j := 0) rfl : atI _ ((0 : Nat) : Int) = _), _, rfl, _, _, rfl, rfl, ?_, ?_⟩
        · rw [show (Str.ofString "").length = 0 by decide +kernel, hfl]
          exact Evl.sz_of (by omega)
        have er : (Str.ofString "" ++ f : Str) = intS n := tl_inj (by
          unfold intS
          rw [tl_cat, tl_int, intL_abs, if_neg hn, ef, empty_tl]
          rfl)
        rw [er]
        exact q _ (same_new hp)
def spRight : Sp := fun vs H Q _ => ∃ x : Str, vs = [.str x] ∧ x.length ≤ 640 ∧ ∀ H', Same H H' → Q (.bl true) H'
theorem ok_law_right (T : Txt K mg A) : FnOk P w K mg base CX0 3 A.a_law_right A.d_law_right ["worth"] spRight := by
  have G_law_number := ok_law_number (P := P) (w := w) (base := base) T
  have G_number_of := ok_number_of (P := P) (w := w) (base := base) T
  have G_is_number_text := ok_is_number_text (P := P) (w := w) (base := base) T
  have G_law_written := ok_law_written (P := P) (w := w) (base := base) T
  refine T.F_law_right.ok sc_law_right (fun vs H Q E h => ?_) (fun cdv A outer s H vs Q E hr h => ?_)
  · obtain ⟨x, rfl, _⟩ := h
    rfl
  · obtain ⟨x, rfl, hl, q⟩ := h
    refine ⟨_, (pss_cons (ps_set (i := 1) sc_law_right.nd rfl (.inl rfl) (pe_call G_law_number (hr.mono (by decide)) (by rfl) T.g_law_number T.F_law_number.kp T.b_law_number .nil pass0 (pa_cons (pv 0) pa_nil)))
      (pss_cons (ps_set (i := 2) sc_law_right.nd rfl (.inl rfl) (pe_call G_number_of (hr.mono (by decide)) (by rfl) T.g_number_of T.F_number_of.kp T.b_number_of .nil pass0 (pa_cons (pv 0) pa_nil)))
      (pss_cons (ps_if (PW.pt (pw_or (pt_not (pt_val (pe_callB (k_isi K) (by rfl) T.n_isinstance (by decide +kernel) (pa_cons (pv 2) (pa_cons (pe_bltn (v := .ty "int") (by rfl) T.n_int (by decide +kernel) rfl) pa_nil))))) (pw_or (pt_val (pe_callB (k_isi K) (by rfl) T.n_isinstance (by decide +kernel) (pa_cons (pv 2) (pa_cons (pe_bltn (v := .ty "bool") (by rfl) T.n_bool (by decide +kernel) rfl) pa_nil)))) (pw_or1 (pt_cmpR op_ne (pv 2) (pv 1) (nomark _))))))
      (pss_one (ps_ret pe_bl))
      pss_nil)
      (pss_cons (ps_set (i := 3) sc_law_right.nd rfl (.inl rfl) (pe_call G_is_number_text (hr.mono (by decide)) (by rfl) T.g_is_number_text T.F_is_number_text.kp T.b_is_number_text .nil pass0 (pa_cons (pv 0) pa_nil)))
      (pss_one (ps_ret (pe_and (pe_callB (k_isi K) (by rfl) T.n_isinstance (by decide +kernel) (pa_cons (pv 3) (pa_cons (pe_bltn (v := .ty "bool") (by rfl) T.n_bool (by decide +kernel) rfl) pa_nil))) (pe_one (pe_cmpR op_eq (pv 3) (pe_cmpR op_eq (pe_call G_law_written (hr.mono (by decide)) (by rfl) T.g_law_written T.F_law_written.kp T.b_law_written .nil pass0 (pa_cons (pv 1) pa_nil)) (pv 0) (nomark _)) (nomark _)))))))))), ?_⟩
    refine ⟨_, rfl, x, rfl, hl, fun H1 s1 => ⟨_, rfl, x, rfl, hl, ?_⟩⟩
    refine ⟨_, rfl, .int (numS x), .ty "int", _, _, true, rfl, .ty "int", .base (.int _), kit_ty (by decide +kernel), true, rfl, iteF ?_⟩
    refine ⟨_, rfl, .int (numS x), .ty "bool", _, _, false, rfl, .ty "bool", .base (.int _), kit_ty (by decide +kernel), false, rfl, iteF ?_⟩
    refine ⟨_, rfl, _, rfl, rfl, _, rfl, ?_⟩
    rw [decide_eq_true rfl]
    refine iteF ⟨_, rfl, x, rfl, Nat.le_trans hl (by decide), ?_⟩
    refine ⟨_, rfl, .bl (isNumS x), .ty "bool", _, _, true, rfl, .ty "bool", .base (.bl _), kit_ty (by decide +kernel), true, rfl, iteT ?_⟩
    refine ⟨_, rfl, _, rfl, _, rfl, Nat.le_trans numS_len (by omega), fun H2 s2 => ⟨_, rfl, rfl, rfl, ?_⟩⟩
    have e : decide (V.bl (isNumS x) = V.bl (decide (V.str (intS (numS x)) = V.str x))) = true := by
      refine decide_eq_true (congrArg V.bl ?_)
      rw [isNumS_iff]
      exact decide_eq_decide.mpr ⟨fun z => congrArg V.str z, fun z => V.str.inj z⟩
    rw [e]
    exact q _ (s1.trans s2)
theorem len_int (n : Int) {k : Nat} (hk : 0 < k) (h : n.natAbs < 10 ^ k) : (Str.ofString (toString n)).length ≤ k + 2 := by
  rw [len_tl, tl_int]
  have key : ∀ (m n : Nat), n < 10 ^ m → (decL n).length ≤ m + 1 := by
    intro m
    induction m with
    | zero => intro n h; rw [show n = 0 by omega, decL_lt (by decide)]; decide
    | succ m ih =>
      intro n h
      by_cases hn : n < 10
      · rw [decL_lt hn]; show 1 ≤ _; omega
      · rw [decL_ge (by omega), List.length_append, List.length_singleton]
        have := ih (n / 10) (by rw [Nat.pow_succ] at h; omega)
        omega
  have := key k n.natAbs h
  unfold intL
  split
  · rw [List.length_cons]; omega
  · omega
theorem log_lt {n : Int} (h : n.natAbs < 2 ^ 210) : n.natAbs.log2 < 1920 := Nat.lt_of_lt_of_le (PySem.Flt.log2_lt_of (by decide) h) (by decide)
theorem ok_law (T : Txt K mg A) : FnOk P w K mg base CX0 4 A.a_law A.d_law ["script"] (spLaw K) := by
  have G_law_draw := ok_law_draw (P := P) (w := w) (base := base) T
  have G_law_bag := ok_law_bag (P := P) (w := w) (base := base) T
  have G_law_cell_at := ok_law_cell_at (P := P) (w := w) (base := base) T
  have G_law_text := ok_law_text (P := P) (w := w) (base := base) T
  have G_law_right := ok_law_right (P := P) (w := w) (base := base) T
  have G_law_written := ok_law_written (P := P) (w := w) (base := base) T
  have G_number_of := ok_number_of (P := P) (w := w) (base := base) T
  have G_number_text := ok_number_text (P := P) (w := w) (base := base) T
  have G_is_number_text := ok_is_number_text (P := P) (w := w) (base := base) T
  refine T.F_law.ok sc_law (fun vs H Q E h => ?_) (fun cdv A outer s H vs Q E hr h => ?_)
  · obtain ⟨a, ns, rfl, _⟩ := h
    rfl
  · obtain ⟨a, ns, rfl, hS, hl, hb, q⟩ := h
    refine ⟨_, (pss_cons (ps_for PassesOwn.never rfl (pi_range1 (by rfl) T.n_range (pa_cons (pe_callB (call_max2 rfl) (by rfl) T.n_max (by decide +kernel) (pa_cons pe_int (pa_cons (pe_callB (call_min2 rfl) (by rfl) T.n_min (by decide +kernel) (pa_cons pe_int (pa_cons (pe_callB (k_len K) (by rfl) T.n_len PySem.boot_len (pa_cons (pv 0) pa_nil)) pa_nil))) pa_nil))) pa_nil)) (pg_name (i := 1) sc_law.nd rfl (.inl rfl))
      (pss_cons (ps_set (i := 2) sc_law.nd rfl (.inr rfl) (pe_call G_law_bag (hr.mono (by decide)) (by rfl) T.g_law_bag T.F_law_bag.kp T.b_law_bag .nil pass0 (pa_cons (pe_call G_law_cell_at (hr.mono (by decide)) (by rfl) T.g_law_cell_at T.F_law_cell_at.kp T.b_law_cell_at .nil pass0 (pa_cons (pv 0) (pa_cons (pv 1) pa_nil))) (pa_cons (pv 1) pa_nil))))
      (pss_cons (ps_set (i := 3) sc_law.nd rfl (.inl rfl) (pe_op op_mulW (pe_call G_law_draw (hr.mono (by decide)) (by rfl) T.g_law_draw T.F_law_draw.kp T.b_law_draw .nil pass0 (pa_cons (pv 2) (pa_cons (pe_ix (k_ix_list K) (pe_lst (pa_cons pe_int (pa_cons pe_int (pa_cons (pe_op op_powW pe_int pe_int) pa_nil)))) (pe_call G_law_draw (hr.mono (by decide)) (by rfl) T.g_law_draw T.F_law_draw.kp T.b_law_draw .nil pass0 (pa_cons (pv 2) (pa_cons pe_int pa_nil))) (fun _ _ => rfl)) pa_nil))) (pe_ix (k_ix_list K) (pe_lst (pa_cons pe_int (pa_cons (pe_un un_neg pe_int) pa_nil))) (pe_call G_law_draw (hr.mono (by decide)) (by rfl) T.g_law_draw T.F_law_draw.kp T.b_law_draw .nil pass0 (pa_cons (pv 2) (pa_cons pe_int pa_nil))) (fun _ _ => rfl))))
      (pss_cons (ps_set (i := 4) sc_law.nd rfl (.inl rfl) (pe_m1 PySem.F.slot_str_join PySem.F.type_str_join (k_mt_join K) pe_str (pe_lc (own := [("j", 7)]) (g := gName 7) (tt := tYes) rfl sc_law.nd (pi_range1 (by rfl) T.n_range (pa_cons (pe_call G_law_draw (hr.mono (by decide)) (by rfl) T.g_law_draw T.F_law_draw.kp T.b_law_draw .nil pass0 (pa_cons (pv 2) (pa_cons pe_int pa_nil))) pa_nil)) (blkOk_by (own := [("j", 7)]) (N := N_law) (sc := defScope s_law) (by decide +kernel)) (fun _ _ _ _ _ => (pg_name (i := 7) sc_law.nd rfl (.inl rfl))) (fun _ _ _ _ _ => pts_nil) (fun _ _ _ _ _ => (pe_ix ix_str pe_str (pe_call G_law_draw (hr.mono (by decide)) (by rfl) T.g_law_draw T.F_law_draw.kp T.b_law_draw .nil pass0 (pa_cons (pv 2) (pa_cons pe_int pa_nil))) (fun _ _ => rfl))))))
      (pss_cons (ps_set (i := 5) sc_law.nd rfl (.inl rfl) (pe_lst (pa_cons (pe_call G_law_text (hr.mono (by decide)) (by rfl) T.g_law_text T.F_law_text.kp T.b_law_text .nil pass0 (pa_cons (pv 2) (pa_cons pe_int pa_nil))) (pa_cons (pe_call G_law_text (hr.mono (by decide)) (by rfl) T.g_law_text T.F_law_text.kp T.b_law_text .nil pass0 (pa_cons (pv 2) (pa_cons pe_int pa_nil))) (pa_cons (pe_op op_add_str (pv 4) (pe_call G_law_text (hr.mono (by decide)) (by rfl) T.g_law_text T.F_law_text.kp T.b_law_text .nil pass0 (pa_cons (pv 2) (pa_cons pe_int pa_nil)))) (pa_cons (pe_op op_add_str (pv 4) (pe_callTy call_str_int (by rfl) T.n_str (by decide +kernel) (pa_cons (pv 3) pa_nil))) (pa_cons (pv 4) pa_nil)))))))
      (pss_cons (ps_set (i := 5) sc_law.nd rfl (.inl rfl) (pe_op op_cat (pv 5) (pe_lst (pa_cons (pe_op op_add_str (pv 4) (pe_op op_repS (pe_callTy call_str_int (by rfl) T.n_str (by decide +kernel) (pa_cons (pe_call G_law_draw (hr.mono (by decide)) (by rfl) T.g_law_draw T.F_law_draw.kp T.b_law_draw .nil pass0 (pa_cons (pv 2) (pa_cons (pe_op op_powW pe_int pe_int) pa_nil))) pa_nil)) pe_int)) (pa_cons (pe_op op_add_str (pe_op op_repS (pe_callTy call_str_int (by rfl) T.n_str (by decide +kernel) (pa_cons (pe_call G_law_draw (hr.mono (by decide)) (by rfl) T.g_law_draw T.F_law_draw.kp T.b_law_draw .nil pass0 (pa_cons (pv 2) (pa_cons (pe_op op_powW pe_int pe_int) pa_nil))) pa_nil)) pe_int) (pv 4)) pa_nil)))))
      (pss_cons (ps_if (pt_cmpR (k_neP K hr.units) (pe_lc (own := [("worth", 8)]) (g := gName 8)  rfl sc_law.nd (k_pi_list K (pe_op op_cat (pv 5) (pe_lst (pa_cons pe_str (pa_cons (pe_op op_add_str pe_str (pe_callTy call_str_int (by rfl) T.n_str (by decide +kernel) (pa_cons (pv 3) pa_nil))) (pa_cons (pe_op op_add_str (pe_callTy call_str_int (by rfl) T.n_str (by decide +kernel) (pa_cons (pv 3) pa_nil)) pe_str) pa_nil)))))) (blkOk_by (own := [("worth", 8)]) (N := N_law) (sc := defScope s_law) (by decide +kernel)) (fun _ _ _ _ _ => (pg_name (i := 8) sc_law.nd rfl (.inl rfl))) (fun _ _ _ _ _ => pts_one (pt_not (pt_val (pe_call G_law_right (hr.mono (by decide)) (by rfl) T.g_law_right T.F_law_right.kp T.b_law_right .nil pass0 (pa_cons (pv 8) pa_nil))))) (fun _ _ _ _ _ => (pv 8))) (pe_lst pa_nil) (nomark _))
      (pss_one (ps_ret pe_bl))
      pss_nil)
      (pss_cons (ps_set (i := 6) sc_law.nd rfl (.inl rfl) (pe_call G_number_text (hr.mono (by decide)) (by rfl) T.g_number_text T.F_number_text.kp T.b_number_text .nil pass0 (pa_cons (pv 3) pa_nil)))
      (pss_cons (ps_if (PW.pt (pw_or (pt_not (pt_val (pe_callB (k_isi K) (by rfl) T.n_isinstance (by decide +kernel) (pa_cons (pv 6) (pa_cons (pe_bltn (v := .ty "str") (by rfl) T.n_str (by decide +kernel) rfl) pa_nil))))) (pw_or (pt_cmpR op_ne (pv 6) (pe_call G_law_written (hr.mono (by decide)) (by rfl) T.g_law_written T.F_law_written.kp T.b_law_written .nil pass0 (pa_cons (pv 3) pa_nil)) (nomark _)) (pw_or1 (pt_cmpR op_ne (pe_call G_number_of (hr.mono (by decide)) (by rfl) T.g_number_of T.F_number_of.kp T.b_number_of .nil pass0 (pa_cons (pv 6) pa_nil)) (pv 3) (nomark _))))))
      (pss_one (ps_ret pe_bl))
      pss_nil)
      (pss_one (ps_if (pt_cmpR op_isnot_bl (pe_call G_is_number_text (hr.mono (by decide)) (by rfl) T.g_is_number_text T.F_is_number_text.kp T.b_is_number_text .nil pass0 (pa_cons (pv 6) pa_nil)) pe_bl (nomark _))
      (pss_one (ps_ret pe_bl))
      pss_nil)))))))))))
      (pss_one (ps_ret pe_bl))), ?_⟩
    obtain ⟨m, hm, m0, m1⟩ := turns_of ((ns.map V.int).length : Int) 20 (by decide) (by decide)
    refine ⟨_, rfl, a, _, rfl, .inl hS, 20, _, rfl, 1, _, rfl, m, congrArg (fun z => [V.int z]) hm, by omega, by omega, ?_⟩
    refine for_range (fun i σ H' => Same H H' ∧ ∃ y1 y2 y3 y4 y5 y6 y7 y8, σ = [some (.ref a), y1, y2, y3, y4, y5, y6, y7, y8]) ⟨.refl H, _, _, _, _, _, _, _, _, rfl⟩ ?_ (fun σ H' _ => q H')
    rintro i σ H0 hi ⟨s0, y1, y2, y3, y4, y5, y6, y7, y8, rfl⟩
    -- bag
    refine ⟨_, rfl, _, rfl, a, ns, _, rfl, s0.seq hS, by omega, fun cell => ⟨_, rfl, _, _, rfl, by omega, by omega, fun H1 b nb s1 B1 => ?_⟩⟩
    -- number
    refine ⟨_, rfl, ?_⟩
    refine rd_menu (xs := [.int 10, .int 200, .int (10 ^ (20 : Int).toNat)]) (N := 0) (fun R h => ⟨_, _, rfl, rfl, ⟨by decide, by decide, by decide⟩, h⟩) rfl rfl (by decide) (by decide) (by decide) B1 fun H2 v hv c2 B2 => ?_
    obtain ⟨n, rfl, n0, n1⟩ : ∃ n : Int, v = .int n ∧ 0 < n ∧ n ≤ 10 ^ 20 := by
      simp only [List.mem_cons, List.not_mem_nil, or_false] at hv
      rcases hv with rfl | rfl | rfl <;> exact ⟨_, rfl, by decide, by decide⟩
    refine ⟨b, n, 1, rfl, n0, by omega, by decide, B2, fun H3 r c3 B3 r0 r1 => ?_⟩
    refine rd_menu (xs := [.int 1, .int (-1)]) (N := 2) (fun R h => ⟨_, rfl, h⟩) rfl rfl (by decide) (by decide) (by decide) B3 fun H4 v hv c4 B4 => ?_
    obtain ⟨k, rfl, k0⟩ : ∃ k : Int, v = .int k ∧ (k = 1 ∨ k = -1) := by
      simp only [List.mem_cons, List.not_mem_nil, or_false] at hv
      rcases hv with rfl | rfl <;> exact ⟨_, rfl, by decide⟩
    refine ⟨_, _, rfl, rfl, mul_ok (by omega) (by omega), ?_⟩
    obtain ⟨num, hnum, nb1, nb2⟩ : ∃ num : Int, r * k = num ∧ num.natAbs < 10 ^ 20 ∧ num.natAbs < 2 ^ 210 := ⟨_, rfl, by rcases k0 with rfl | rfl <;> omega, by rcases k0 with rfl | rfl <;> omega⟩
    dsimp only
    rw [hnum]
    have c14 : Chg b H1 H4 := (c2.trans c3).trans c4
    -- marks
    refine ⟨⟨_, rfl⟩, ?_⟩
    refine rd_draw (N := 3) rfl (fun R h => h) (by decide) (by decide) (by decide) B4 fun H5 mn c5 B5 mn0 mn1 => ?_
    refine ⟨_, rfl, by omega, by omega, fun D hD => ?_⟩
    refine lc_draws (N := 4) (c := 1) (n := mn.toNat) (fun v => ∃ y : Str, v = .str y ∧ WorthS y ∧ y.length = 1) (by omega) hD B5 (fun H6 M kk c6 B6 hM R q6 => ?_) (by decide) (fun H6 ys yl hy c6 B6 e6 => ?_)
    · refine rd_draw (N := M) rfl (fun R h => h) (by decide) (by decide) (by omega) B6 fun H7 j c7 B7 j0 j1 => ?_
      obtain ⟨c, hc, ec⟩ := at_lt (xs := tl (Str.ofString "+-")) j0 (by rw [show (tl (Str.ofString "+-")).length = 2 by decide +kernel]; exact j1)
      have hw : WorthS (Str.ofString "+-") := by decide +kernel
      exact ⟨_, j, c, rfl, rfl, by decide +kernel, ec, q6 _ _ c7 B7 ⟨_, rfl, worth_sign (hw c hc), rfl⟩⟩
    obtain ⟨zs, rfl, hz⟩ := strs_of hy
    have hs := sum_le (c := 1) fun z h => Nat.le_of_eq (hz z h).2
    have he : (Str.ofString "").length = 0 := by decide +kernel
    rw [List.length_map] at yl
    refine ⟨_, D, zs, rfl, rfl, .inl (.inl (.inl e6)), (by rw [he]; omega), ?_⟩
    have hlen := len_join1 (e := Str.ofString "") empty_tl fun z h => (hz z h).2
    generalize Txt.join (Str.ofString "") zs = marks at hlen
    have ml : marks.length ≤ 8 := by omega
    have c16 : Chg b H1 H6 := (c14.trans c5).trans c6
    have cat : ∀ x y : Str, (x ++ y).length = x.length + y.length := fun x y => by rw [len_tl, tl_cat, List.length_append, ← len_tl, ← len_tl]
    -- some
    refine ⟨_, rfl, b, 40, _, rfl, by decide, by decide, (by omega), B6, fun H7 t1 c7 B7 l1 _ => ?_⟩
    have B7 := B7.mono (M := 3000) (by omega)
    refine ⟨_, rfl, b, 200, 3000, rfl, by decide, by decide, by decide, B7, fun H8 t2 c8 B8 l2 _ => ?_⟩
    refine ⟨_, rfl, _, rfl, b, 20, 5000, rfl, by decide, by decide, by decide, B8, fun H9 t3 c9 B9 l3 _ => ?_⟩
    refine ⟨_, _, rfl, rfl, Evl.sz_of (by omega), ?_⟩
    refine ⟨_, rfl, _, rfl, _, rfl, log_lt nb2, ?_⟩
    have nl : (Str.ofString (toString num)).length ≤ 22 := len_int num (by decide) nb1
    refine ⟨_, _, rfl, rfl, Evl.sz_of (by show marks.length + (Str.ofString (toString num)).length ≤ _; omega), _, rfl, ?_⟩
    refine ⟨Evl.sz_of (by show 5 ≤ 100000; decide), fun p hp => ?_⟩
    have hp9 : (upd H9 p (.lst [.str t1, .str t2, .str (marks ++ t3), .str (marks ++ Str.ofString (toString num)), .str marks])) p = _ := upd_same
    have bp := B9.ne hp
    -- some + ..
    refine ⟨_, rfl, _, rfl, ?_⟩
    refine rd_draw (N := 7000) rfl (fun R h => ⟨_, _, rfl, rfl, ⟨by decide, by decide, by decide⟩, h⟩) (by decide) (by decide) (by decide) (B9.new hp) fun H10 d1 c10 B10 d10 d11 => ?_
    have hd1 : d1.natAbs < 10 ^ 60 := by
      have : d1 < 10 ^ 60 := d11
      omega
    have e1 := len_int d1 (by decide) hd1
    refine ⟨_, rfl, log_lt (by omega), ?_⟩
    refine ⟨_, 3, rfl, rfl, by decide, by decide, (by show (Str.ofString (toString d1)).length ≤ _; omega), fun r1 hr1 _ => ?_⟩
    have hr1' : (r1.length : Int) = (Str.ofString (toString d1)).length * 3 := hr1
    refine ⟨_, _, rfl, rfl, Evl.sz_of (by omega), ?_⟩
    refine rd_draw (N := 7001) rfl (fun R h => ⟨_, _, rfl, rfl, ⟨by decide, by decide, by decide⟩, h⟩) (by decide) (by decide) (by decide) B10 fun H11 d2 c11 B11 d20 d21 => ?_
    have hd2 : d2.natAbs < 10 ^ 60 := by
      have : d2 < 10 ^ 60 := d21
      omega
    have e2 := len_int d2 (by decide) hd2
    refine ⟨_, rfl, log_lt (by omega), ?_⟩
    refine ⟨_, 3, rfl, rfl, by decide, by decide, (by show (Str.ofString (toString d2)).length ≤ _; omega), fun r2 hr2 _ => ?_⟩
    have hr2' : (r2.length : Int) = (Str.ofString (toString d2)).length * 3 := hr2
    refine ⟨_, rfl, _, _, rfl, rfl, Evl.sz_of (by omega), ?_⟩
    refine ⟨Evl.sz_of (by show 2 ≤ 100000; decide), fun p2 hp2 => ?_⟩
    have hpA : H11 p = some (.lst [.str t1, .str t2, .str (marks ++ t3), .str (marks ++ Str.ofString (toString num)), .str marks]) := c11 _ _ bp.symm (c10 _ _ bp.symm hp9)
    refine ⟨p, p2, _, _, rfl, rfl, same_new hp2 _ _ hpA, upd_same, Evl.sz_of (by show 7 ≤ 100000; decide), fun p3 hq3 => ?_⟩
    have c12 := (((((c16.trans c7).trans c8).trans c9).trans (Chg.new hp)).trans ((c10.trans c11).trans (Chg.new hp2))).trans (Chg.new (o := .lst ([.str t1, .str t2, .str (marks ++ t3), .str (marks ++ Str.ofString (toString num)), .str marks] ++ [.str (marks ++ r1), .str (r2 ++ marks)])) hq3)
    generalize hH12 : upd (upd H11 p2 _) p3 _ = H12
    rw [hH12] at c12
    have hp3 : H12 p3 = some (.lst ([t1, t2, marks ++ t3, marks ++ Str.ofString (toString num), marks, marks ++ r1, r2 ++ marks].map V.str)) := by rw [← hH12]; exact upd_same
    have s12 : Same H0 H12 := same_chg s1 c12 nb
    -- all of them are right
    refine ⟨_, rfl, _, rfl, _, rfl, log_lt nb2, _, _, rfl, rfl, Evl.sz_of (by
      rw [show (Str.ofString "0").length = 1 by decide +kernel]
      show 1 + (Str.ofString (toString num)).length ≤ _
      omega), ?_⟩
    refine ⟨_, rfl, _, rfl, log_lt nb2, _, _, rfl, rfl, Evl.sz_of (by
      rw [show (Str.ofString "x").length = 1 by decide +kernel]
      show (Str.ofString (toString num)).length + 1 ≤ _
      omega), ?_⟩
    refine ⟨Evl.sz_of (by show 3 ≤ 100000; decide), fun p4 hq4 => ?_⟩
    refine ⟨p3, p4, _, _, rfl, rfl, same_new hq4 _ _ hp3, upd_same, Evl.sz_of (by show 10 ≤ 100000; decide), fun p5 hq5 => ?_⟩
    have s14 : Same H0 (upd (upd H12 p4 (.lst [.str "", .str (Str.ofString "0" ++ Str.ofString (toString num)), .str (Str.ofString (toString num) ++ Str.ofString "x")])) p5 (.lst (([t1, t2, marks ++ t3, marks ++ Str.ofString (toString num), marks, marks ++ r1, r2 ++ marks].map V.str) ++ [.str "", .str (Str.ofString "0" ++ Str.ofString (toString num)), .str (Str.ofString (toString num) ++ Str.ofString "x")]))) := (s12.trans (same_new hq4)).trans (same_new hq5)
    generalize hH14 : upd (upd H12 p4 _) p5 _ = H14
    rw [hH14] at s14
    have all : ∀ y ∈ [t1, t2, marks ++ t3, marks ++ Str.ofString (toString num), marks, marks ++ r1, r2 ++ marks, (Str.ofString ""), Str.ofString "0" ++ Str.ofString (toString num), Str.ofString (toString num) ++ Str.ofString "x"], y.length ≤ 640 := by
      have z0 : (Str.ofString "0").length = 1 := by decide +kernel
      have zx : (Str.ofString "x").length = 1 := by decide +kernel
      intro y hy
      simp only [List.mem_cons, List.not_mem_nil, or_false] at hy
      rcases hy with rfl | rfl | rfl | rfl | rfl | rfl | rfl | rfl | rfl | rfl
      · omega
      · omega
      · rw [cat]; omega
      · rw [cat]; omega
      · omega
      · rw [cat]; omega
      · rw [cat]; omega
      · rw [he]; omega
      · rw [cat]; omega
      · rw [cat]; omega
    have hp5 : H14 p5 = some (.lst ([t1, t2, marks ++ t3, marks ++ Str.ofString (toString num), marks, marks ++ r1, r2 ++ marks, (Str.ofString ""), Str.ofString "0" ++ Str.ofString (toString num), Str.ofString (toString num) ++ Str.ofString "x"].map V.str)) := by rw [← hH14]; exact upd_same
    have wl : [t1, t2, marks ++ t3, marks ++ Str.ofString (toString num), marks, marks ++ r1, r2 ++ marks, (Str.ofString ""), Str.ofString "0" ++ Str.ofString (toString num), Str.ofString (toString num) ++ Str.ofString "x"].length ≤ 100000 := by show 10 ≤ 100000; decide
    generalize [t1, t2, marks ++ t3, marks ++ Str.ofString (toString num), marks, marks ++ r1, r2 ++ marks, (Str.ofString ""), Str.ofString "0" ++ Str.ofString (toString num), Str.ofString (toString num) ++ Str.ofString "x"] = ws at all hp5 wl
    refine ⟨p5, rfl, ⟨_, .inl (.inl hp5)⟩, fun D2 hD2 => ?_⟩
    refine lc_pure_list (fun _ => false) (fun v => v) (by rw [List.length_map]; exact wl) hD2 (.inl (.inl hp5)) (fun x H15 hx s15 R q15 => ?_) (fun x H15 hx hp => by cases hp) (fun H15 s15 e15 => ?_)
    · obtain ⟨y, hy, rfl⟩ := List.mem_map.mp hx
      exact ⟨_, rfl, y, rfl, all y hy, fun H16 s16 => ⟨true, rfl, q15 _ s16⟩⟩
    have e15 : H15 D2 = some (.lst (([] : List Int).map V.int)) := by
      rw [e15, List.filter_eq_nil_iff.mpr (fun _ _ => Bool.false_ne_true)]
      rfl
    refine ⟨Nat.zero_le _, fun p6 hq6 => ?_⟩
    refine rd_neP (dv_ints (.inl (.inl (same_new hq6 _ _ e15)))) (dv_ints (ks := []) (.inl (.inl upd_same))) (by decide) ⟨_, rfl, iteF ?_⟩
    have s16 : Same H0 (upd H15 p6 (.lst [])) := (s14.trans s15).trans (same_new hq6)
    generalize upd H15 p6 _ = H16 at s16
    -- number_text
    refine ⟨_, rfl, num, rfl, log_lt nb2, ?_⟩
    refine ⟨_, rfl, .str (intS num), .ty "str", _, _, true, rfl, .ty "str", .base (.str _), kit_ty (by decide +kernel), true, rfl, iteF ?_⟩
    refine ⟨_, rfl, _, rfl, num, rfl, ?_, fun H17 s17 => ⟨rfl, _, rfl, ?_⟩⟩
    · have := nl
      rw [len_tl, tl_int] at this
      omega
    rw [decide_eq_true rfl]
    refine iteF ⟨_, rfl, _, rfl, ?_, _, rfl, rfl, _, rfl, ?_⟩
    · show (Str.ofString (toString num)).length ≤ 640
      omega
    rw [numS_int, decide_eq_true rfl]
    refine iteF ⟨_, rfl, _, rfl, ?_, ?_⟩
    · show (Str.ofString (toString num)).length ≤ 100000
      omega
    rw [isNumS_int]
    exact ⟨true, true, rfl, rfl, _, rfl, iteF ⟨s0.trans (s16.trans s17), _, _, _, _, _, _, _, _, rfl⟩⟩

end
theorem txt_mk {K : PySem.W.Frag} {h : Heap} {mg : Str → Option Value} (X : K.In h) (G : h.Ns mainGlobals mg)
    {f0 : Addr} {od0 an0 : Option Addr} {sl0 : Array (Option Value)} {oc0 kV0 dc0 pm0 cd0 ct0 : Value}
    (a0 : PySem.W.nsIn K mainGlobals "signs_ahead" = some (some (.ref f0))) (l0 : K.lookup f0 = some ⟨oc0, od0, .func (PySem.W.fnOf "signs_ahead" "signs_ahead" (defArgs s_signs_ahead) (defBody s_signs_ahead) (defScope s_signs_ahead) .none kV0 dc0 pm0 an0 cd0 ct0), sl0⟩) (c0 : PySem.W.codeIn K cd0 "signs_ahead" = true) (k0 : PySem.W.keepIn K (.ref f0) = true)
    {f1 : Addr} {od1 an1 : Option Addr} {sl1 : Array (Option Value)} {oc1 kV1 dc1 pm1 cd1 ct1 : Value}
    (a1 : PySem.W.nsIn K mainGlobals "number_of" = some (some (.ref f1))) (l1 : K.lookup f1 = some ⟨oc1, od1, .func (PySem.W.fnOf "number_of" "number_of" (defArgs s_number_of) (defBody s_number_of) (defScope s_number_of) .none kV1 dc1 pm1 an1 cd1 ct1), sl1⟩) (c1 : PySem.W.codeIn K cd1 "number_of" = true) (k1 : PySem.W.keepIn K (.ref f1) = true)
    {f2 : Addr} {od2 an2 : Option Addr} {sl2 : Array (Option Value)} {oc2 kV2 dc2 pm2 cd2 ct2 : Value}
    (a2 : PySem.W.nsIn K mainGlobals "number_text" = some (some (.ref f2))) (l2 : K.lookup f2 = some ⟨oc2, od2, .func (PySem.W.fnOf "number_text" "number_text" (defArgs s_number_text) (defBody s_number_text) (defScope s_number_text) .none kV2 dc2 pm2 an2 cd2 ct2), sl2⟩) (c2 : PySem.W.codeIn K cd2 "number_text" = true) (k2 : PySem.W.keepIn K (.ref f2) = true)
    {f3 : Addr} {od3 an3 : Option Addr} {sl3 : Array (Option Value)} {oc3 kV3 dc3 pm3 cd3 ct3 : Value}
    (a3 : PySem.W.nsIn K mainGlobals "is_number_text" = some (some (.ref f3))) (l3 : K.lookup f3 = some ⟨oc3, od3, .func (PySem.W.fnOf "is_number_text" "is_number_text" (defArgs s_is_number_text) (defBody s_is_number_text) (defScope s_is_number_text) .none kV3 dc3 pm3 an3 cd3 ct3), sl3⟩) (c3 : PySem.W.codeIn K cd3 "is_number_text" = true) (k3 : PySem.W.keepIn K (.ref f3) = true)
    {f4 : Addr} {od4 an4 : Option Addr} {sl4 : Array (Option Value)} {oc4 kV4 dc4 pm4 cd4 ct4 : Value}
    (a4 : PySem.W.nsIn K mainGlobals "_law_cell_at" = some (some (.ref f4))) (l4 : K.lookup f4 = some ⟨oc4, od4, .func (PySem.W.fnOf "_law_cell_at" "_law_cell_at" (defArgs s_law_cell_at) (defBody s_law_cell_at) (defScope s_law_cell_at) .none kV4 dc4 pm4 an4 cd4 ct4), sl4⟩) (c4 : PySem.W.codeIn K cd4 "_law_cell_at" = true) (k4 : PySem.W.keepIn K (.ref f4) = true)
    {f5 : Addr} {od5 an5 : Option Addr} {sl5 : Array (Option Value)} {oc5 kV5 dc5 pm5 cd5 ct5 : Value}
    (a5 : PySem.W.nsIn K mainGlobals "_law_bag" = some (some (.ref f5))) (l5 : K.lookup f5 = some ⟨oc5, od5, .func (PySem.W.fnOf "_law_bag" "_law_bag" (defArgs s_law_bag) (defBody s_law_bag) (defScope s_law_bag) .none kV5 dc5 pm5 an5 cd5 ct5), sl5⟩) (c5 : PySem.W.codeIn K cd5 "_law_bag" = true) (k5 : PySem.W.keepIn K (.ref f5) = true)
    {f6 : Addr} {od6 an6 : Option Addr} {sl6 : Array (Option Value)} {oc6 kV6 dc6 pm6 cd6 ct6 : Value}
    (a6 : PySem.W.nsIn K mainGlobals "_law_draw" = some (some (.ref f6))) (l6 : K.lookup f6 = some ⟨oc6, od6, .func (PySem.W.fnOf "_law_draw" "_law_draw" (defArgs s_law_draw) (defBody s_law_draw) (defScope s_law_draw) .none kV6 dc6 pm6 an6 cd6 ct6), sl6⟩) (c6 : PySem.W.codeIn K cd6 "_law_draw" = true) (k6 : PySem.W.keepIn K (.ref f6) = true)
    {f7 : Addr} {od7 an7 : Option Addr} {sl7 : Array (Option Value)} {oc7 kV7 dc7 pm7 cd7 ct7 : Value}
    (a7 : PySem.W.nsIn K mainGlobals "_law_signs" = some (some (.ref f7))) (l7 : K.lookup f7 = some ⟨oc7, od7, .func (PySem.W.fnOf "_law_signs" "_law_signs" (defArgs s_law_signs) (defBody s_law_signs) (defScope s_law_signs) .none kV7 dc7 pm7 an7 cd7 ct7), sl7⟩) (c7 : PySem.W.codeIn K cd7 "_law_signs" = true) (k7 : PySem.W.keepIn K (.ref f7) = true)
    {f8 : Addr} {od8 an8 : Option Addr} {sl8 : Array (Option Value)} {oc8 kV8 dc8 pm8 cd8 ct8 : Value}
    (a8 : PySem.W.nsIn K mainGlobals "_law_text" = some (some (.ref f8))) (l8 : K.lookup f8 = some ⟨oc8, od8, .func (PySem.W.fnOf "_law_text" "_law_text" (defArgs s_law_text) (defBody s_law_text) (defScope s_law_text) .none kV8 dc8 pm8 an8 cd8 ct8), sl8⟩) (c8 : PySem.W.codeIn K cd8 "_law_text" = true) (k8 : PySem.W.keepIn K (.ref f8) = true)
    {f9 : Addr} {od9 an9 : Option Addr} {sl9 : Array (Option Value)} {oc9 kV9 dc9 pm9 cd9 ct9 : Value}
    (a9 : PySem.W.nsIn K mainGlobals "_law_number" = some (some (.ref f9))) (l9 : K.lookup f9 = some ⟨oc9, od9, .func (PySem.W.fnOf "_law_number" "_law_number" (defArgs s_law_number) (defBody s_law_number) (defScope s_law_number) .none kV9 dc9 pm9 an9 cd9 ct9), sl9⟩) (c9 : PySem.W.codeIn K cd9 "_law_number" = true) (k9 : PySem.W.keepIn K (.ref f9) = true)
    {f10 : Addr} {od10 an10 : Option Addr} {sl10 : Array (Option Value)} {oc10 kV10 dc10 pm10 cd10 ct10 : Value}
    (a10 : PySem.W.nsIn K mainGlobals "_law_written" = some (some (.ref f10))) (l10 : K.lookup f10 = some ⟨oc10, od10, .func (PySem.W.fnOf "_law_written" "_law_written" (defArgs s_law_written) (defBody s_law_written) (defScope s_law_written) .none kV10 dc10 pm10 an10 cd10 ct10), sl10⟩) (c10 : PySem.W.codeIn K cd10 "_law_written" = true) (k10 : PySem.W.keepIn K (.ref f10) = true)
    {f11 : Addr} {od11 an11 : Option Addr} {sl11 : Array (Option Value)} {oc11 kV11 dc11 pm11 cd11 ct11 : Value}
    (a11 : PySem.W.nsIn K mainGlobals "_law_right" = some (some (.ref f11))) (l11 : K.lookup f11 = some ⟨oc11, od11, .func (PySem.W.fnOf "_law_right" "_law_right" (defArgs s_law_right) (defBody s_law_right) (defScope s_law_right) .none kV11 dc11 pm11 an11 cd11 ct11), sl11⟩) (c11 : PySem.W.codeIn K cd11 "_law_right" = true) (k11 : PySem.W.keepIn K (.ref f11) = true)
    {f12 : Addr} {od12 an12 : Option Addr} {sl12 : Array (Option Value)} {oc12 kV12 dc12 pm12 cd12 ct12 : Value}
    (a12 : PySem.W.nsIn K mainGlobals "law" = some (some (.ref f12))) (l12 : K.lookup f12 = some ⟨oc12, od12, .func (PySem.W.fnOf "law" "law" (defArgs s_law) (defBody s_law) (defScope s_law) .none kV12 dc12 pm12 an12 cd12 ct12), sl12⟩) (c12 : PySem.W.codeIn K cd12 "law" = true) (k12 : PySem.W.keepIn K (.ref f12) = true)
    (z_abs : PySem.W.nsIn K mainGlobals "abs" = some none)
    (z_bool : PySem.W.nsIn K mainGlobals "bool" = some none)
    (z_int : PySem.W.nsIn K mainGlobals "int" = some none)
    (z_isinstance : PySem.W.nsIn K mainGlobals "isinstance" = some none)
    (z_len : PySem.W.nsIn K mainGlobals "len" = some none)
    (z_max : PySem.W.nsIn K mainGlobals "max" = some none)
    (z_min : PySem.W.nsIn K mainGlobals "min" = some none)
    (z_range : PySem.W.nsIn K mainGlobals "range" = some none)
    (z_str : PySem.W.nsIn K mainGlobals "str" = some none)

    {t_FIGURES : Tok} (g_FIGURES : PySem.W.nsIn K mainGlobals "FIGURES" = some (some (.str (Str.ofString "0123456789") t_FIGURES)))
    : Txt K mg ⟨f0, PySem.W.fnOf "signs_ahead" "signs_ahead" (defArgs s_signs_ahead) (defBody s_signs_ahead) (defScope s_signs_ahead) .none kV0 dc0 pm0 an0 cd0 ct0, f1, PySem.W.fnOf "number_of" "number_of" (defArgs s_number_of) (defBody s_number_of) (defScope s_number_of) .none kV1 dc1 pm1 an1 cd1 ct1, f2, PySem.W.fnOf "number_text" "number_text" (defArgs s_number_text) (defBody s_number_text) (defScope s_number_text) .none kV2 dc2 pm2 an2 cd2 ct2, f3, PySem.W.fnOf "is_number_text" "is_number_text" (defArgs s_is_number_text) (defBody s_is_number_text) (defScope s_is_number_text) .none kV3 dc3 pm3 an3 cd3 ct3, f4, PySem.W.fnOf "_law_cell_at" "_law_cell_at" (defArgs s_law_cell_at) (defBody s_law_cell_at) (defScope s_law_cell_at) .none kV4 dc4 pm4 an4 cd4 ct4, f5, PySem.W.fnOf "_law_bag" "_law_bag" (defArgs s_law_bag) (defBody s_law_bag) (defScope s_law_bag) .none kV5 dc5 pm5 an5 cd5 ct5, f6, PySem.W.fnOf "_law_draw" "_law_draw" (defArgs s_law_draw) (defBody s_law_draw) (defScope s_law_draw) .none kV6 dc6 pm6 an6 cd6 ct6, f7, PySem.W.fnOf "_law_signs" "_law_signs" (defArgs s_law_signs) (defBody s_law_signs) (defScope s_law_signs) .none kV7 dc7 pm7 an7 cd7 ct7, f8, PySem.W.fnOf "_law_text" "_law_text" (defArgs s_law_text) (defBody s_law_text) (defScope s_law_text) .none kV8 dc8 pm8 an8 cd8 ct8, f9, PySem.W.fnOf "_law_number" "_law_number" (defArgs s_law_number) (defBody s_law_number) (defScope s_law_number) .none kV9 dc9 pm9 an9 cd9 ct9, f10, PySem.W.fnOf "_law_written" "_law_written" (defArgs s_law_written) (defBody s_law_written) (defScope s_law_written) .none kV10 dc10 pm10 an10 cd10 ct10, f11, PySem.W.fnOf "_law_right" "_law_right" (defArgs s_law_right) (defBody s_law_right) (defScope s_law_right) .none kV11 dc11 pm11 an11 cd11 ct11, f12, PySem.W.fnOf "law" "law" (defArgs s_law) (defBody s_law) (defScope s_law) .none kV12 dc12 pm12 an12 cd12 ct12, t_FIGURES⟩ where
  F_signs_ahead := fun_mk (st := s_signs_ahead) l0 c0 k0
  g_signs_ahead := PySem.W.mg_of X G a0
  b_signs_ahead := (fun_mk (st := s_signs_ahead) l0 c0 k0).binds (ps := ["worth", "some"]) fun _ _ _ _ _ _ us hl => match us, hl with | [_, _], _ => rfl
  F_number_of := fun_mk (st := s_number_of) l1 c1 k1
  g_number_of := PySem.W.mg_of X G a1
  b_number_of := (fun_mk (st := s_number_of) l1 c1 k1).binds (ps := ["worth"]) fun _ _ _ _ _ _ us hl => match us, hl with | [_], _ => rfl
  F_number_text := fun_mk (st := s_number_text) l2 c2 k2
  g_number_text := PySem.W.mg_of X G a2
  b_number_text := (fun_mk (st := s_number_text) l2 c2 k2).binds (ps := ["number"]) fun _ _ _ _ _ _ us hl => match us, hl with | [_], _ => rfl
  F_is_number_text := fun_mk (st := s_is_number_text) l3 c3 k3
  g_is_number_text := PySem.W.mg_of X G a3
  b_is_number_text := (fun_mk (st := s_is_number_text) l3 c3 k3).binds (ps := ["worth"]) fun _ _ _ _ _ _ us hl => match us, hl with | [_], _ => rfl
  F_law_cell_at := fun_mk (st := s_law_cell_at) l4 c4 k4
  g_law_cell_at := PySem.W.mg_of X G a4
  b_law_cell_at := (fun_mk (st := s_law_cell_at) l4 c4 k4).binds (ps := ["script", "k"]) fun _ _ _ _ _ _ us hl => match us, hl with | [_, _], _ => rfl
  F_law_bag := fun_mk (st := s_law_bag) l5 c5 k5
  g_law_bag := PySem.W.mg_of X G a5
  b_law_bag := (fun_mk (st := s_law_bag) l5 c5 k5).binds (ps := ["cell", "nth"]) fun _ _ _ _ _ _ us hl => match us, hl with | [_, _], _ => rfl
  F_law_draw := fun_mk (st := s_law_draw) l6 c6 k6
  g_law_draw := PySem.W.mg_of X G a6
  b_law_draw := (fun_mk (st := s_law_draw) l6 c6 k6).binds (ps := ["bag", "many"]) fun _ _ _ _ _ _ us hl => match us, hl with | [_, _], _ => rfl
  F_law_signs := fun_mk (st := s_law_signs) l7 c7 k7
  g_law_signs := PySem.W.mg_of X G a7
  b_law_signs := (fun_mk (st := s_law_signs) l7 c7 k7).binds (ps := []) fun _ _ _ _ _ _ us hl => match us, hl with | [], _ => rfl
  F_law_text := fun_mk (st := s_law_text) l8 c8 k8
  g_law_text := PySem.W.mg_of X G a8
  b_law_text := (fun_mk (st := s_law_text) l8 c8 k8).binds (ps := ["bag", "most"]) fun _ _ _ _ _ _ us hl => match us, hl with | [_, _], _ => rfl
  F_law_number := fun_mk (st := s_law_number) l9 c9 k9
  g_law_number := PySem.W.mg_of X G a9
  b_law_number := (fun_mk (st := s_law_number) l9 c9 k9).binds (ps := ["worth"]) fun _ _ _ _ _ _ us hl => match us, hl with | [_], _ => rfl
  F_law_written := fun_mk (st := s_law_written) l10 c10 k10
  g_law_written := PySem.W.mg_of X G a10
  b_law_written := (fun_mk (st := s_law_written) l10 c10 k10).binds (ps := ["number"]) fun _ _ _ _ _ _ us hl => match us, hl with | [_], _ => rfl
  F_law_right := fun_mk (st := s_law_right) l11 c11 k11
  g_law_right := PySem.W.mg_of X G a11
  b_law_right := (fun_mk (st := s_law_right) l11 c11 k11).binds (ps := ["worth"]) fun _ _ _ _ _ _ us hl => match us, hl with | [_], _ => rfl
  F_law := fun_mk (st := s_law) l12 c12 k12
  g_law := PySem.W.mg_of X G a12
  b_law := (fun_mk (st := s_law) l12 c12 k12).binds (ps := ["script"]) fun _ _ _ _ _ _ us hl => match us, hl with | [_], _ => rfl
  n_abs := PySem.W.mg_none_of X G z_abs
  n_bool := PySem.W.mg_none_of X G z_bool
  n_int := PySem.W.mg_none_of X G z_int
  n_isinstance := PySem.W.mg_none_of X G z_isinstance
  n_len := PySem.W.mg_none_of X G z_len
  n_max := PySem.W.mg_none_of X G z_max
  n_min := PySem.W.mg_none_of X G z_min
  n_range := PySem.W.mg_none_of X G z_range
  n_str := PySem.W.mg_none_of X G z_str
  c_FIGURES := PySem.W.mg_of X G g_FIGURES
theorem all_mk {l : PySem.W.OpenLaw} {w : World} {K : PySem.W.Frag} {h : Heap} {mg : Str → Option Value} {fa : Addr} (X : K.In h) (G : h.Ns mainGlobals mg) (hfa : mg "law" = some (.ref fa))
    {f0 : Addr} {od0 an0 : Option Addr} {sl0 : Array (Option Value)} {oc0 kV0 dc0 pm0 cd0 ct0 : Value}
    (a0 : PySem.W.nsIn K mainGlobals "signs_ahead" = some (some (.ref f0))) (l0 : K.lookup f0 = some ⟨oc0, od0, .func (PySem.W.fnOf "signs_ahead" "signs_ahead" (defArgs s_signs_ahead) (defBody s_signs_ahead) (defScope s_signs_ahead) .none kV0 dc0 pm0 an0 cd0 ct0), sl0⟩) (c0 : PySem.W.codeIn K cd0 "signs_ahead" = true) (k0 : PySem.W.keepIn K (.ref f0) = true)
    {f1 : Addr} {od1 an1 : Option Addr} {sl1 : Array (Option Value)} {oc1 kV1 dc1 pm1 cd1 ct1 : Value}
    (a1 : PySem.W.nsIn K mainGlobals "number_of" = some (some (.ref f1))) (l1 : K.lookup f1 = some ⟨oc1, od1, .func (PySem.W.fnOf "number_of" "number_of" (defArgs s_number_of) (defBody s_number_of) (defScope s_number_of) .none kV1 dc1 pm1 an1 cd1 ct1), sl1⟩) (c1 : PySem.W.codeIn K cd1 "number_of" = true) (k1 : PySem.W.keepIn K (.ref f1) = true)
    {f2 : Addr} {od2 an2 : Option Addr} {sl2 : Array (Option Value)} {oc2 kV2 dc2 pm2 cd2 ct2 : Value}
    (a2 : PySem.W.nsIn K mainGlobals "number_text" = some (some (.ref f2))) (l2 : K.lookup f2 = some ⟨oc2, od2, .func (PySem.W.fnOf "number_text" "number_text" (defArgs s_number_text) (defBody s_number_text) (defScope s_number_text) .none kV2 dc2 pm2 an2 cd2 ct2), sl2⟩) (c2 : PySem.W.codeIn K cd2 "number_text" = true) (k2 : PySem.W.keepIn K (.ref f2) = true)
    {f3 : Addr} {od3 an3 : Option Addr} {sl3 : Array (Option Value)} {oc3 kV3 dc3 pm3 cd3 ct3 : Value}
    (a3 : PySem.W.nsIn K mainGlobals "is_number_text" = some (some (.ref f3))) (l3 : K.lookup f3 = some ⟨oc3, od3, .func (PySem.W.fnOf "is_number_text" "is_number_text" (defArgs s_is_number_text) (defBody s_is_number_text) (defScope s_is_number_text) .none kV3 dc3 pm3 an3 cd3 ct3), sl3⟩) (c3 : PySem.W.codeIn K cd3 "is_number_text" = true) (k3 : PySem.W.keepIn K (.ref f3) = true)
    {f4 : Addr} {od4 an4 : Option Addr} {sl4 : Array (Option Value)} {oc4 kV4 dc4 pm4 cd4 ct4 : Value}
    (a4 : PySem.W.nsIn K mainGlobals "_law_cell_at" = some (some (.ref f4))) (l4 : K.lookup f4 = some ⟨oc4, od4, .func (PySem.W.fnOf "_law_cell_at" "_law_cell_at" (defArgs s_law_cell_at) (defBody s_law_cell_at) (defScope s_law_cell_at) .none kV4 dc4 pm4 an4 cd4 ct4), sl4⟩) (c4 : PySem.W.codeIn K cd4 "_law_cell_at" = true) (k4 : PySem.W.keepIn K (.ref f4) = true)
    {f5 : Addr} {od5 an5 : Option Addr} {sl5 : Array (Option Value)} {oc5 kV5 dc5 pm5 cd5 ct5 : Value}
    (a5 : PySem.W.nsIn K mainGlobals "_law_bag" = some (some (.ref f5))) (l5 : K.lookup f5 = some ⟨oc5, od5, .func (PySem.W.fnOf "_law_bag" "_law_bag" (defArgs s_law_bag) (defBody s_law_bag) (defScope s_law_bag) .none kV5 dc5 pm5 an5 cd5 ct5), sl5⟩) (c5 : PySem.W.codeIn K cd5 "_law_bag" = true) (k5 : PySem.W.keepIn K (.ref f5) = true)
    {f6 : Addr} {od6 an6 : Option Addr} {sl6 : Array (Option Value)} {oc6 kV6 dc6 pm6 cd6 ct6 : Value}
    (a6 : PySem.W.nsIn K mainGlobals "_law_draw" = some (some (.ref f6))) (l6 : K.lookup f6 = some ⟨oc6, od6, .func (PySem.W.fnOf "_law_draw" "_law_draw" (defArgs s_law_draw) (defBody s_law_draw) (defScope s_law_draw) .none kV6 dc6 pm6 an6 cd6 ct6), sl6⟩) (c6 : PySem.W.codeIn K cd6 "_law_draw" = true) (k6 : PySem.W.keepIn K (.ref f6) = true)
    {f7 : Addr} {od7 an7 : Option Addr} {sl7 : Array (Option Value)} {oc7 kV7 dc7 pm7 cd7 ct7 : Value}
    (a7 : PySem.W.nsIn K mainGlobals "_law_signs" = some (some (.ref f7))) (l7 : K.lookup f7 = some ⟨oc7, od7, .func (PySem.W.fnOf "_law_signs" "_law_signs" (defArgs s_law_signs) (defBody s_law_signs) (defScope s_law_signs) .none kV7 dc7 pm7 an7 cd7 ct7), sl7⟩) (c7 : PySem.W.codeIn K cd7 "_law_signs" = true) (k7 : PySem.W.keepIn K (.ref f7) = true)
    {f8 : Addr} {od8 an8 : Option Addr} {sl8 : Array (Option Value)} {oc8 kV8 dc8 pm8 cd8 ct8 : Value}
    (a8 : PySem.W.nsIn K mainGlobals "_law_text" = some (some (.ref f8))) (l8 : K.lookup f8 = some ⟨oc8, od8, .func (PySem.W.fnOf "_law_text" "_law_text" (defArgs s_law_text) (defBody s_law_text) (defScope s_law_text) .none kV8 dc8 pm8 an8 cd8 ct8), sl8⟩) (c8 : PySem.W.codeIn K cd8 "_law_text" = true) (k8 : PySem.W.keepIn K (.ref f8) = true)
    {f9 : Addr} {od9 an9 : Option Addr} {sl9 : Array (Option Value)} {oc9 kV9 dc9 pm9 cd9 ct9 : Value}
    (a9 : PySem.W.nsIn K mainGlobals "_law_number" = some (some (.ref f9))) (l9 : K.lookup f9 = some ⟨oc9, od9, .func (PySem.W.fnOf "_law_number" "_law_number" (defArgs s_law_number) (defBody s_law_number) (defScope s_law_number) .none kV9 dc9 pm9 an9 cd9 ct9), sl9⟩) (c9 : PySem.W.codeIn K cd9 "_law_number" = true) (k9 : PySem.W.keepIn K (.ref f9) = true)
    {f10 : Addr} {od10 an10 : Option Addr} {sl10 : Array (Option Value)} {oc10 kV10 dc10 pm10 cd10 ct10 : Value}
    (a10 : PySem.W.nsIn K mainGlobals "_law_written" = some (some (.ref f10))) (l10 : K.lookup f10 = some ⟨oc10, od10, .func (PySem.W.fnOf "_law_written" "_law_written" (defArgs s_law_written) (defBody s_law_written) (defScope s_law_written) .none kV10 dc10 pm10 an10 cd10 ct10), sl10⟩) (c10 : PySem.W.codeIn K cd10 "_law_written" = true) (k10 : PySem.W.keepIn K (.ref f10) = true)
    {f11 : Addr} {od11 an11 : Option Addr} {sl11 : Array (Option Value)} {oc11 kV11 dc11 pm11 cd11 ct11 : Value}
    (a11 : PySem.W.nsIn K mainGlobals "_law_right" = some (some (.ref f11))) (l11 : K.lookup f11 = some ⟨oc11, od11, .func (PySem.W.fnOf "_law_right" "_law_right" (defArgs s_law_right) (defBody s_law_right) (defScope s_law_right) .none kV11 dc11 pm11 an11 cd11 ct11), sl11⟩) (c11 : PySem.W.codeIn K cd11 "_law_right" = true) (k11 : PySem.W.keepIn K (.ref f11) = true)
    {f12 : Addr} {od12 an12 : Option Addr} {sl12 : Array (Option Value)} {oc12 kV12 dc12 pm12 cd12 ct12 : Value}
    (a12 : PySem.W.nsIn K mainGlobals "law" = some (some (.ref f12))) (l12 : K.lookup f12 = some ⟨oc12, od12, .func (PySem.W.fnOf "law" "law" (defArgs s_law) (defBody s_law) (defScope s_law) .none kV12 dc12 pm12 an12 cd12 ct12), sl12⟩) (c12 : PySem.W.codeIn K cd12 "law" = true) (k12 : PySem.W.keepIn K (.ref f12) = true)
    (z_abs : PySem.W.nsIn K mainGlobals "abs" = some none)
    (z_bool : PySem.W.nsIn K mainGlobals "bool" = some none)
    (z_int : PySem.W.nsIn K mainGlobals "int" = some none)
    (z_isinstance : PySem.W.nsIn K mainGlobals "isinstance" = some none)
    (z_len : PySem.W.nsIn K mainGlobals "len" = some none)
    (z_max : PySem.W.nsIn K mainGlobals "max" = some none)
    (z_min : PySem.W.nsIn K mainGlobals "min" = some none)
    (z_range : PySem.W.nsIn K mainGlobals "range" = some none)
    (z_str : PySem.W.nsIn K mainGlobals "str" = some none)

    {t_FIGURES : Tok} (g_FIGURES : PySem.W.nsIn K mainGlobals "FIGURES" = some (some (.str (Str.ofString "0123456789") t_FIGURES)))
    : ∃ fd : FuncData, (∀ (s : Shared) (v : Value), BindsTo s fd ⟨[v], []⟩ [("script", v)]) ∧ ∀ base : Heap, K.In base → base.Ns mainGlobals mg → FnOk l.prog w K mg base CX0 4 fa fd ["script"] (spLaw K) := by
  have e := hfa.symm.trans (PySem.W.mg_of X G a12)
  cases e
  have T := txt_mk X G a0 l0 c0 k0 a1 l1 c1 k1 a2 l2 c2 k2 a3 l3 c3 k3 a4 l4 c4 k4 a5 l5 c5 k5 a6 l6 c6 k6 a7 l7 c7 k7 a8 l8 c8 k8 a9 l9 c9 k9 a10 l10 c10 k10 a11 l11 c11 k11 a12 l12 c12 k12 z_abs z_bool z_int z_isinstance z_len z_max z_min z_range z_str g_FIGURES
  exact ⟨_, fun s v => .of_eq rfl, fun base _ _ => ok_law T⟩
end Sk
open PySem PySem.W PyProof.Rows
set_option maxHeartbeats 0 in
theorem PySem.Challenge.cw_stemkeep_k02_numbers_of_worths_holds : PySem.Challenge.rw_stemkeep_k02_numbers_of_worths.Holds := by
  w_on; o_law; k_head; (case hw => w_witness2)
  k_fill
  refine L2.walk_ofB (l := PySem.Challenge.rw_stemkeep_k02_numbers_of_worths) (n := 63) (k := 4) (x := "script") (CX := fun _ => L2.CX0) (sp := fun w => Sk.spLaw _) rfl (by decide) rfl ⟨rfl, by decide, by decide⟩ (fun w h Y => PySem.W.kIn_of Y) ?F (fun _ H a ns hl hb hO hS => Sk.spLaw_start hl hb hO hS) (fun _ _ _ _ _ h => h)
  case F =>
    intro w mg fa h KX G hmg
    refine' Sk.all_mk KX G hmg ?a0 ?l0 ?c0 ?k0 ?a1 ?l1 ?c1 ?k1 ?a2 ?l2 ?c2 ?k2 ?a3 ?l3 ?c3 ?k3 ?a4 ?l4 ?c4 ?k4 ?a5 ?l5 ?c5 ?k5 ?a6 ?l6 ?c6 ?k6 ?a7 ?l7 ?c7 ?k7 ?a8 ?l8 ?c8 ?k8 ?a9 ?l9 ?c9 ?k9 ?a10 ?l10 ?c10 ?k10 ?a11 ?l11 ?c11 ?k11 ?a12 ?l12 ?c12 ?k12 ?z_abs ?z_bool ?z_int ?z_isinstance ?z_len ?z_max ?z_min ?z_range ?z_str ?g_FIGURES
    (case a0 => k_is); (case l0 => k_is); (case c0 => k_is); (case k0 => k_is); (case a1 => k_is); (case l1 => k_is); (case c1 => k_is); (case k1 => k_is); (case a2 => k_is); (case l2 => k_is); (case c2 => k_is); (case k2 => k_is); (case a3 => k_is); (case l3 => k_is); (case c3 => k_is); (case k3 => k_is); (case a4 => k_is); (case l4 => k_is); (case c4 => k_is); (case k4 => k_is); (case a5 => k_is); (case l5 => k_is); (case c5 => k_is); (case k5 => k_is); (case a6 => k_is); (case l6 => k_is); (case c6 => k_is); (case k6 => k_is); (case a7 => k_is); (case l7 => k_is); (case c7 => k_is); (case k7 => k_is); (case a8 => k_is); (case l8 => k_is); (case c8 => k_is); (case k8 => k_is); (case a9 => k_is); (case l9 => k_is); (case c9 => k_is); (case k9 => k_is); (case a10 => k_is); (case l10 => k_is); (case c10 => k_is); (case k10 => k_is); (case a11 => k_is); (case l11 => k_is); (case c11 => k_is); (case k11 => k_is); (case a12 => k_is); (case l12 => k_is); (case c12 => k_is); (case k12 => k_is); (case z_abs => k_is); (case z_bool => k_is); (case z_int => k_is); (case z_isinstance => k_is); (case z_len => k_is); (case z_max => k_is); (case z_min => k_is); (case z_range => k_is); (case z_str => k_is); (case g_FIGURES => k_is)
