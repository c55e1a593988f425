import PyProof.Rows.All
import Wide.All
import OpenK.AllK
import Wide.FinOn
import HandS.ForMost
import HandS.EndBits
import HandS.Wide
import HandS.TupAny
import HandS.IsInst
import HandS.Evl
import HandS.Steps
import KE.Datum
import KE.IntTextLaws
import KE.IntTextText
import HandS.Style
import HandS.TupLe
import HandS.SortKw
import HandS.Keys
import KE.SortKeyHeap
import KE.SortData
import HandS.Defaults
import KE.DatumMoreOrd
import PySem.Challenge.RW_stemkeep_k03_keys_in_order
set_option Elab.async false
set_option linter.all false
set_option maxRecDepth 100000
set_option maxHeartbeats 4000000
namespace Sk
open PySem PySem.Spec PyProof.Rows L2
/-! ### powers of middling numbers -/
def CPowW (i j : Int) : Prop := 0 ≤ j ∧ j ≤ 1000 ∧ i.natAbs < 2 ^ 4096
theorem op_powW {X : Cx} : OpR X (binaryOp .Pow) (rI CPowW fun i j => .int (i ^ j.toNat)) := opI fun i j _ _ _ _ _ hc q => by
  obtain ⟨h0, h1, h2⟩ := hc
  refine pow_int h0 ?_ q
  have b : Builtin.Int.intBits i ≤ 4096 := by
    have h3 := PySem.Flt.log2_lt_of (n := i.natAbs) (by decide : 0 < 4096) h2
    unfold Builtin.Int.intBits
    split <;> omega
  have b2 : (Builtin.Int.intBits i : Int) ≤ 4096 := by omega
  have b3 : (Builtin.Int.intBits i : Int) * j ≤ 4096 * 1000 := Int.mul_le_mul b2 h1 h0 (by decide)
  omega
/-! ### rules that lean on the written part, K told (a comprehension's block has it too) -/
section
variable {X : Cx}
theorem k_ix_list (K : PySem.W.Frag) (e : X.K = K := by rfl) : IxR X (rIxL K) := by subst e; exact ix_list
theorem k_ix_tup (K : PySem.W.Frag) (e : X.K = K := by rfl) : IxR X (rIxT K) := by subst e; exact ix_tup
theorem k_sl_list (K : PySem.W.Frag) (e : X.K = K := by rfl) : SlR X (rSlL K) := by subst e; exact sl_list
theorem k_sl_tup (K : PySem.W.Frag) (e : X.K = K := by rfl) : SlR X (rSlA K) := by subst e; exact sl_tupA
theorem k_len (K : PySem.W.Frag) (e : X.K = K := by rfl) : CallR X (.builtin "len") (Evl.rLenS K) := by subst e; exact call_len_seq
theorem k_catA (K : PySem.W.Frag) (e : X.K = K := by rfl) : OpR X (binaryOp .Add) (rCatA K) := by subst e; exact op_catA
theorem k_eqD (K : PySem.W.Frag) (hu : X.A.units + 64 < cLine) (e : X.K = K := by rfl) : OpR X (compareOp .Eq) (rEqD K) := by subst e; exact op_eqD hu
theorem k_neD (K : PySem.W.Frag) (hu : X.A.units + 64 < cLine) (e : X.K = K := by rfl) : OpR X (compareOp .NotEq) (rNeD K) := by subst e; exact op_neD hu
theorem k_in (K : PySem.W.Frag) (e : X.K = K := by rfl) : OpR X (compareOp .In) (rIn K false) := by subst e; exact op_in_seq
theorem k_notIn (K : PySem.W.Frag) (e : X.K = K := by rfl) : OpR X (compareOp .NotIn) (rIn K true) := by subst e; exact op_notIn_seq
theorem k_list (K : PySem.W.Frag) (e : X.K = K := by rfl) : CallR X (.type "list") (Evl.rListS K) := by subst e; exact call_list_of
def rTupOf (K : PySem.W.Frag) : List V → Hp → VK → Prop := fun xs H Q => ∃ p ys, xs = [.ref p] ∧ ((SqL K H p ys ∧ ∀ l, H l = none → Q (.ref l) (upd H l (.tup ys))) ∨ (SqT K H p ys ∧ Q (.ref p) H))
theorem k_tuple (K : PySem.W.Frag) (e : X.K = K := by rfl) : CallR X (.type "tuple") (rTupOf K) := by subst e; exact call_tuple_of
theorem k_isi (K : PySem.W.Frag) (e : X.K = K := by rfl) : CallR X (.builtin "isinstance") (rIsi K) := by subst e; exact call_isi
theorem k_all (K : PySem.W.Frag) (hc : X.calm = true := by rfl) (e : X.K = K := by rfl) : CallR X (.builtin "all") (rAll K) := by subst e; exact cr_all hc
def rJoin (K : PySem.W.Frag) : V → List V → Hp → VK → Prop := fun x xs H Q => ∃ a p, ∃ ys : List Str, x = .str a ∧ xs = [.ref p] ∧ (SqL K H p (ys.map V.str) ∨ SqT K H p (ys.map V.str)) ∧
  (ys.map (·.length)).sum + ys.length * a.length ≤ 16777216 ∧ Q (.str (Txt.join a ys)) H
theorem k_mt_join (K : PySem.W.Frag) (e : X.K = K := by rfl) : MtR X "str.join" (rJoin K) := by subst e; exact mt_join
theorem k_pi_list (K : PySem.W.Frag) {tg l : Expr} {tl : TE} (hl : PE X l tl) (e : X.K = K := by rfl) : PI X tg l (iList K tl) := by subst e; exact pi_list hl
theorem k_pi_tup (K : PySem.W.Frag) {tg l : Expr} {tl : TE} (hl : PE X l tl) (e : X.K = K := by rfl) : PI X tg l (iTup K tl) := by subst e; exact pi_tup hl
end
/-! ### heaps but for one object -/
def Chg (b : Addr) (H H' : Hp) : Prop := ∀ a o, a ≠ b → H a = some o → H' a = some o
theorem Chg.refl (b : Addr) (H : Hp) : Chg b H H := fun _ _ _ h => h
theorem Chg.trans {b : Addr} {H H1 H2 : Hp} (a : Chg b H H1) (c : Chg b H1 H2) : Chg b H H2 := fun x o n h => c x o n (a x o n h)
theorem Chg.upd {b : Addr} {H : Hp} {o : HO} : Chg b H (upd H b o) := fun a u n h => by rw [upd_ne n]; exact h
theorem Chg.new {b p : Addr} {H : Hp} {o : HO} (h : H p = none) : Chg b H (L2.upd H p o) := fun a u n e => by rw [upd_ne (ne_of_none e h)]; exact e
theorem Chg.same {b : Addr} {H H' : Hp} (h : Same H H') : Chg b H H' := fun a o _ e => h a o e
theorem same_new {H : Hp} {p : Addr} {o : HO} (h : H p = none) : Same H (upd H p o) := fun b u e => by
  rw [upd_ne (ne_of_none e h)]
  exact e
/-! ### the bag -/
def BagAt (N : Nat) (b : Addr) (H : Hp) : Prop := ∃ x y z : Int, H b = some (.lst [.int x, .int y, .int z]) ∧ 0 ≤ y ∧ y < 2 ^ 130 ∧ 0 ≤ z ∧ z ≤ (N : Int)
theorem BagAt.mono {N M : Nat} {b : Addr} {H : Hp} (h : BagAt N b H) (l : N ≤ M) : BagAt M b H := by
  obtain ⟨x, y, z, e, a, c, d, f⟩ := h
  exact ⟨x, y, z, e, a, c, d, by omega⟩
theorem BagAt.same {N : Nat} {b : Addr} {H H' : Hp} (h : BagAt N b H) (s : Same H H') : BagAt N b H' := by
  obtain ⟨x, y, z, e, r⟩ := h
  exact ⟨x, y, z, s _ _ e, r⟩
theorem BagAt.chg {N : Nat} {b c : Addr} {H H' : Hp} (h : BagAt N b H) (s : Chg c H H') (n : b ≠ c) : BagAt N b H' := by
  obtain ⟨x, y, z, e, r⟩ := h
  exact ⟨x, y, z, s _ _ n e, r⟩
theorem BagAt.new {N : Nat} {b p : Addr} {H : Hp} {o : HO} (h : BagAt N b H) (n : H p = none) : BagAt N b (upd H p o) := h.same (same_new n)
theorem BagAt.ne {N : Nat} {b p : Addr} {H : Hp} (h : BagAt N b H) (n : H p = none) : b ≠ p := by
  obtain ⟨x, y, z, e, _⟩ := h
  exact ne_of_none e n
theorem BagAt.neT {N : Nat} {b a : Addr} {H : Hp} {xs : List V} (h : BagAt N b H) (e : H a = some (.tup xs)) : a ≠ b := by
  obtain ⟨x, y, z, e2, _⟩ := h
  exact ne_of e e2 (by intro z; cases z)
theorem BagAt.rd {K : PySem.W.Frag} {N : Nat} {b : Addr} {H : Hp} (h : BagAt N b H) : ∃ xs, SqL K H b xs := by
  obtain ⟨x, y, z, e, _⟩ := h
  exact ⟨_, .inl (.inl e)⟩
/-- a draw: some number below m, the bag one turn older -/
def spDraw : Sp := fun vs H Q _ => ∃ (b : Addr) (m : Int) (N : Nat), vs = [.ref b, .int m] ∧ 0 < m ∧ m < 2 ^ 256 ∧ N < 2 ^ 60 ∧ BagAt N b H ∧
  ∀ (H' : Hp) (r : Int), Chg b H H' → BagAt (N + 1) b H' → 0 ≤ r → r < m → Q (.int r) H'
theorem div_ok {m : Int} (h : 0 < m) (l : m < 2 ^ 256) : CDivW 0 m := wide_div (b := 256) h (by omega) (by decide) (by decide)
theorem pow_ok {i : Int} (h0 : 0 ≤ i) (h : i < 2 ^ 140) : CPowW i 3 := ⟨by decide, by decide, by
  have h1 : i.natAbs < 2 ^ 140 := by omega
  exact Nat.lt_of_lt_of_le h1 (Nat.pow_le_pow_right (by decide) (by decide))⟩
theorem mul_ok {i j : Int} (h0 : i.natAbs < 2 ^ 256) (h : j.natAbs < 2 ^ 256) : CMulW i j := wide_mul h0 h (by decide) (by decide) (by decide)
end Sk

namespace Sk
open PySem PySem.Spec PyProof.Rows L2
/-! ### texts by their signs -/
abbrev tl (s : Str) : List Nat := s.cps.toList
def Wc (c : Nat) : Prop := 32 ≤ c ∧ c ≤ 126 ∧ c ≠ 37
instance (c : Nat) : Decidable (Wc c) := by unfold Wc; infer_instance
def WorthS (s : Str) : Prop := ∀ c ∈ tl s, Wc c
instance (s : Str) : Decidable (WorthS s) := by unfold WorthS; infer_instance
def lawSigns : Str := Str.ofString " !\"#$&'()*+,-./0123456789:;<=>?@ABCDEFGHIJKLMNOPQRSTUVWXYZ[\\]^_`abcdefghijklmnopqrstuvwxyz{|}~"
theorem lawSigns_worth : WorthS lawSigns := by decide +kernel
theorem lawSigns_len : lawSigns.length = 94 := by decide +kernel
theorem lawSigns_mem {c : Nat} : c ∈ tl lawSigns ↔ Wc c := by
  constructor
  · exact fun h => lawSigns_worth c h
  · intro h
    have h1 : c < 127 := by have := h.2.1; omega
    have key : ∀ d < 127, Wc d → d ∈ tl lawSigns := by decide +kernel
    exact key c h1 h
theorem len_tl (s : Str) : s.length = (tl s).length := by simp [Str.length, tl]
theorem tl_inj {a b : Str} (h : tl a = tl b) : a = b := by
  obtain ⟨a⟩ := a
  obtain ⟨b⟩ := b
  exact congrArg Str.mk (Array.toList_inj.mp h)
theorem tl_cat (a b : Str) : tl (a ++ b) = tl a ++ tl b := TL.tl_append a b
theorem joinL_nil : ∀ l : List (List Nat), TL.joinL [] l = l.flatten
  | [] => rfl
  | [p] => by simp [TL.joinL]
  | p :: q :: r => by
    show p ++ ([] ++ TL.joinL [] (q :: r)) = _
    rw [joinL_nil (q :: r)]
    simp
theorem tl_join0 {e : Str} (he : tl e = []) (ys : List Str) : tl (Txt.join e ys) = (ys.map tl).flatten := by
  have h := TL.tl_join e ys
  rw [show Txt.join e ys = Str.join e ys from TL.join_eq e ys]
  exact h.trans (by
    show TL.joinL (tl e) (ys.map tl) = _
    rw [he, joinL_nil])
theorem empty_tl : tl (Str.ofString "") = [] := by decide +kernel
theorem worth_join {e : Str} (he : tl e = []) {ys : List Str} (h : ∀ y ∈ ys, WorthS y) : WorthS (Txt.join e ys) := by
  intro c hc
  rw [tl_join0 he, List.mem_flatten] at hc
  obtain ⟨l, hl, hc⟩ := hc
  obtain ⟨y, hy, rfl⟩ := List.mem_map.mp hl
  exact h y hy c hc
theorem len_join1 {e : Str} (he : tl e = []) {ys : List Str} (h : ∀ y ∈ ys, y.length = 1) : (Txt.join e ys).length = ys.length := by
  rw [len_tl, tl_join0 he]
  induction ys with
  | nil => rfl
  | cons y r ih =>
    rw [List.map_cons, List.flatten_cons, List.length_append, ih (fun z hz => h z (List.mem_cons_of_mem _ hz)), ← len_tl, h y List.mem_cons_self, List.length_cons]
    omega
theorem cut_to (z : Str) {m : Int} (h : 0 ≤ m) : tl (cutS z none (some m)) = (tl z).take m.toNat := by
  obtain ⟨n, rfl⟩ : ∃ n : Nat, m = (n : Int) := ⟨m.toNat, by omega⟩
  show ((z.cps.toList.drop (HT.sIx z.length 0 none)).take (HT.sIx z.length z.length (some (n : Int)) - HT.sIx z.length 0 none)) = _
  rw [HT.sIx_none, HT.sIx_nat, List.drop_zero, Nat.sub_zero, len_tl, Int.toNat_natCast, List.take_eq_take_iff]
  show min (min n (tl z).length) (tl z).length = min n (tl z).length
  omega
theorem worth_cut {z : Str} (h : WorthS z) {m : Int} (h0 : 0 ≤ m) : WorthS (cutS z none (some m)) := by
  intro c hc
  rw [cut_to z h0] at hc
  exact h c (List.mem_of_mem_take hc)
theorem len_cut (z : Str) {m : Int} (h0 : 0 ≤ m) : ((cutS z none (some m)).length : Int) ≤ m := by
  rw [len_tl, cut_to z h0, List.length_take]
  omega
theorem worth_int (i : Int) : WorthS (Str.ofString (toString i)) := by
  intro c hc
  refine Decidable.byContradiction fun hn => ?_
  have h2 : c ≠ 45 ∧ (c < 48 ∨ 57 < c) := by
    unfold Wc at hn
    omega
  exact PyProof.Rows.int_text_free' c h2 i hc
theorem worth_sign {c : Nat} (h : Wc c) : WorthS ⟨#[c]⟩ := by
  intro d hd
  have : d = c := by simpa [tl] using hd
  rw [this]
  exact h
/-- an item of a list that is as long as the draw's bound -/
theorem at_lt {α : Type} {xs : List α} {r : Int} (h0 : 0 ≤ r) (h : r < xs.length) : ∃ v, v ∈ xs ∧ atI xs r = some v := by
  obtain ⟨n, rfl⟩ : ∃ n : Nat, r = (n : Int) := ⟨r.toNat, by omega⟩
  have hn : n < xs.length := by omega
  exact ⟨xs[n], List.getElem_mem hn, atI_nat (List.getElem?_eq_getElem hn)⟩
theorem at_map {α : Type} {xs : List α} (f : α → V) {r : Int} (h0 : 0 ≤ r) (h : r < xs.length) : ∃ v, v ∈ xs ∧ atI (xs.map f) r = some (f v) := by
  obtain ⟨n, rfl⟩ : ∃ n : Nat, r = (n : Int) := ⟨r.toNat, by omega⟩
  have hn : n < xs.length := by omega
  exact ⟨xs[n], List.getElem_mem hn, atI_nat (by rw [List.getElem?_map, List.getElem?_eq_getElem hn]; rfl)⟩
/-- two tests that leave all as it is, joined -/
theorem rd_and {σ : L2.St} {H : Hp} {Q : Bool → Hp → Prop} {t u : TT} {b1 b2 : Bool} (h1 : ∀ R : Bool → Hp → Prop, R b1 H → t σ H R) (h2 : b1 = true → ∀ R : Bool → Hp → Prop, R b2 H → u σ H R) (q : Q (b1 && b2) H) : tAnd t u σ H Q := by
  refine h1 _ ?_
  cases b1 with
  | true => exact iteT (h2 rfl _ q)
  | false => exact iteF q
theorem rd_or {σ : L2.St} {H : Hp} {Q : Bool → Hp → Prop} {t u : TT} {b1 b2 : Bool} (h1 : ∀ R : Bool → Hp → Prop, R b1 H → t σ H R) (h2 : b1 = false → ∀ R : Bool → Hp → Prop, R b2 H → u σ H R) (q : Q (b1 || b2) H) : tOr t u σ H Q := by
  refine h1 _ ?_
  cases b1 with
  | true => exact iteT q
  | false => exact iteF (h2 rfl _ q)
def spCell (K : PySem.W.Frag) : Sp := fun vs H Q _ => ∃ (a : Addr) (ns : List Int) (k : Int), vs = [.ref a, .int k] ∧ SqL K H a (ns.map V.int) ∧ 0 ≤ k ∧ ∀ r : Int, Q (.int r) H
def spBag : Sp := fun vs H Q _ => ∃ (c n : Int), vs = [.int c, .int n] ∧ 0 ≤ n ∧ n ≤ 1000 ∧ ∀ H' b, H b = none → Same H H' → BagAt 0 b H' → Q (.ref b) H'
def spSigns : Sp := fun vs H Q _ => vs = [] ∧ Q (.str lawSigns) H
def spText : Sp := fun vs H Q _ => ∃ (b : Addr) (m : Int) (N : Nat), vs = [.ref b, .int m] ∧ 0 ≤ m ∧ m ≤ 1000 ∧ N < 2 ^ 50 ∧ BagAt N b H ∧
  ∀ (H' : Hp) (s : Str), Chg b H H' → BagAt (N + 2000) b H' → (s.length : Int) ≤ m → WorthS s → Q (.str s) H'
end Sk

namespace Sk
open PySem PySem.Spec PyProof.Rows L2
theorem Chg.mut {b p : Addr} {H H' : Hp} {o : HO} (c : Chg b H H') (n : H p = none) : Chg b H (L2.upd H' p o) := fun a u h e => by
  rw [upd_ne (ne_of_none e n)]
  exact c a u h e
theorem Chg.sql {K : PySem.W.Frag} {b a : Addr} {H H' : Hp} {xs : List V} (c : Chg b H H') (n : a ≠ b) (h : SqL K H a xs) : SqL K H' a xs := by
  rcases h with (h | ⟨o, h⟩) | h
  · exact .inl (.inl (c _ _ n h))
  · exact .inl (.inr ⟨o, c _ _ n h⟩)
  · exact .inr h
theorem BagAt.mut {N : Nat} {b p : Addr} {H' : Hp} {o : HO} (h : BagAt N b H') (n : b ≠ p) : BagAt N b (upd H' p o) := by
  obtain ⟨x, y, z, e, r⟩ := h
  exact ⟨x, y, z, by rw [upd_ne n]; exact e, r⟩
/-! ### readings of draws -/
section
variable {K : PySem.W.Frag} {σ : L2.St} {H : Hp} {Q : VK} {E : XK} {b : Addr} {N : Nat}
theorem rd_draw {te : TE} {i : Nat} {m : Int} (hi : σ[i]? = some (some (.ref b))) (he : ∀ R : VK, R (.int m) H → te σ H R) (m0 : 0 < m) (m1 : m < 2 ^ 256) (hN : N < 2 ^ 60) (hB : BagAt N b H)
    (q : ∀ H' r, Chg b H H' → BagAt (N + 1) b H' → 0 ≤ r → r < m → Q (.int r) H') : tCall spDraw [] E (tCons (tVar i) (tCons te tNil)) σ H Q :=
  ⟨_, hi, he _ ⟨b, m, N, rfl, m0, m1, hN, hB, q⟩⟩
theorem rd_menu {ta : TA} {xs : List V} {i : Nat} {k : Int} (ha : ∀ R : List V → Hp → Prop, R xs H → ta σ H R) (hi : σ[i]? = some (some (.ref b))) (hk : k = xs.length) (h0 : 0 < xs.length) (h1 : xs.length < 1000) (hN : N < 2 ^ 60) (hB : BagAt N b H)
    (q : ∀ H' v, v ∈ xs → Chg b H H' → BagAt (N + 1) b H' → Q v H') : tOp (rIxL K) (tLst ta) (tCall spDraw [] E (tCons (tVar i) (tCons (tC (.int k)) tNil))) σ H Q := by
  refine ha _ ⟨Nat.le_of_lt (small1000 (by omega)), fun p hp => ?_⟩
  refine ⟨_, hi, b, k, N, rfl, by omega, by omega, hN, hB.new hp, fun H1 r c1 B1 r0 r1 => ?_⟩
  obtain ⟨v, hv, e⟩ := at_lt (xs := xs) r0 (by omega)
  have hp1 : H1 p = some (.lst xs) := c1 _ _ (hB.ne hp).symm upd_same
  exact ⟨p, xs, r, v, rfl, rfl, .inl (.inl hp1), e, q H1 v hv ((Chg.new hp).trans c1) B1⟩
theorem wipe1 {σ : L2.St} {k : Nat} {x : V} : wipe ((wipe σ [k]).set k (some x)) [k] = wipe σ [k] := by
  show ((σ.set k none).set k (some x)).set k none = σ.set k none
  rw [List.set_set, List.set_set]
/-- [elt for k in range(n)], elt drawn -/
theorem lc_draws {te : TE} {k n c : Nat} {H1 : Hp} {D : Addr} {Qd : Hp → Prop} (f : V → Prop) (hn : n ≤ 100000) (hD : H1 D = none) (hB : BagAt N b H1)
    (helt : ∀ H2 M x, Chg b H1 H2 → BagAt M b H2 → M < N + c * n → ∀ R : VK, (∀ H3 y, Chg b H2 H3 → BagAt (M + c) b H3 → f y → R y H3) → te ((wipe σ [k]).set k (some x)) H2 R) (hc : 0 < c)
    (hd : ∀ H2 ys, ys.length = n → (∀ y ∈ ys, f y) → Chg b H1 H2 → BagAt (N + c * n) b H2 → H2 D = some (.lst ys) → Qd H2) :
    ∃ W : Nat → Nat → Hp → Prop, (∃ m, W 0 m (upd H1 D (.lst []))) ∧ ∀ i m H, W i m H →
      ((Itr 0 n).stop i H ∧ Qd H) ∨ ((Itr 0 n).go i H ∧ ∃ Nx : Hp → Prop, (∀ H', Nx H' → ∃ m', m' < m ∧ W (i + 1) m' H') ∧ ∀ x H', (Itr 0 n).yld i H x H' → gName k x (wipe σ [k]) H' fun σ2 H2 => wipe σ2 [k] = wipe σ [k] ∧ tYes σ2 H2 fun b H3 =>
        if b = true then te σ2 H3 fun y H4 => ∃ acc, H4 D = some (.lst acc) ∧ acc.length < sizeLine ∧ Nx (upd H4 D (.lst (acc ++ [y]))) else Nx H3) := by
  have nb := hB.ne hD
  refine lc_range (lo := 0) (n := n) (fun i H2 => ∃ ys, ys.length = i ∧ (∀ y ∈ ys, f y) ∧ Chg b H1 H2 ∧ BagAt (N + c * i) b H2 ∧ H2 D = some (.lst ys)) ?_ ?_ ?_
  · exact ⟨[], rfl, (fun _ h => nomatch h), .new hD, hB.new hD, upd_same⟩
  · rintro i H2 hi ⟨ys, rfl, hf, c2, B2, e2⟩
    refine ⟨wipe1, ?_⟩
    show te _ H2 _
    have hm : c * ys.length < c * n := Nat.mul_lt_mul_of_pos_left hi hc
    refine helt H2 _ _ c2 B2 (by omega) _ fun H3 y c3 B3 hy => ?_
    have e3 : H3 D = some (.lst ys) := c3 _ _ nb.symm e2
    refine ⟨ys, e3, Evl.sz_lt (by omega), ys ++ [y], by simp, fun z hz => ?_, (c2.trans c3).mut hD, ?_, upd_same⟩
    · rcases List.mem_append.mp hz with h | h
      · exact hf z h
      · rw [List.mem_singleton.mp h]; exact hy
    · rw [Nat.mul_succ, ← Nat.add_assoc]
      exact B3.mut nb
  · rintro H2 ⟨ys, e, hf, c2, B2, e2⟩
    exact hd H2 ys e hf c2 B2 e2
end
/-- a list of texts -/
theorem strs_of {ys : List V} {f : Str → Prop} (h : ∀ y ∈ ys, ∃ s, y = .str s ∧ f s) : ∃ zs : List Str, ys = zs.map V.str ∧ ∀ z ∈ zs, f z := by
  induction ys with
  | nil => exact ⟨[], rfl, fun _ h => nomatch h⟩
  | cons y r ih =>
    obtain ⟨zs, rfl, hz⟩ := ih fun z hz => h z (List.mem_cons_of_mem _ hz)
    obtain ⟨s, rfl, hs⟩ := h y List.mem_cons_self
    refine ⟨s :: zs, rfl, fun z hm => ?_⟩
    rcases List.mem_cons.mp hm with rfl | hm
    · exact hs
    · exact hz z hm
theorem sum_le {zs : List Str} {c : Nat} (h : ∀ z ∈ zs, z.length ≤ c) : (zs.map (·.length)).sum ≤ c * zs.length := by
  induction zs with
  | nil => simp
  | cons z r ih =>
    rw [List.map_cons, List.sum_cons, List.length_cons, Nat.mul_succ]
    have h1 := ih fun y hy => h y (List.mem_cons_of_mem _ hy)
    have h2 := h z List.mem_cons_self
    omega
end Sk
namespace Sk
open PySem PySem.Spec PyProof.Rows L2
/-! ### names, keys, references -/
def NameS (s : Str) : Prop := 1 ≤ s.length ∧ s.length ≤ 8 ∧ ∀ c ∈ tl s, 97 ≤ c ∧ c ≤ 122
def KeyS (s : Str) : Prop := 1 ≤ s.length ∧ s.length ≤ 40 ∧ WorthS s
def spName : Sp := fun vs H Q _ => ∃ (b : Addr) (N : Nat), vs = [.ref b] ∧ N < 2 ^ 50 ∧ BagAt N b H ∧
  ∀ (H' : Hp) (s : Str), Chg b H H' → BagAt (N + 20) b H' → NameS s → Q (.str s) H'
def spKey : Sp := fun vs H Q _ => ∃ (b : Addr) (N : Nat), vs = [.ref b] ∧ N < 2 ^ 49 ∧ BagAt N b H ∧
  ∀ (H' : Hp) (s : Str), Chg b H H' → BagAt (N + 2001) b H' → KeyS s → Q (.str s) H'
/-- a tuple of a name and a tuple of keys -/
def RefAt (H : Hp) (v : V) (n : Str) (ks : List Str) : Prop := ∃ a k, v = .ref a ∧ H a = some (.tup [.str n, .ref k]) ∧ H k = some (.tup (ks.map V.str))
structure RefS (n : Str) (ks : List Str) : Prop where
  name : NameS n
  len : ks.length ≤ 6
  keys : ∀ k ∈ ks, KeyS k
def spRef : Sp := fun vs H Q _ => ∃ (b : Addr) (N : Nat), vs = [.ref b] ∧ N < 2 ^ 48 ∧ BagAt N b H ∧
  ∀ (H' : Hp) (v : V) (n : Str) (ks : List Str), Chg b H H' → BagAt (N + 20000) b H' → RefAt H' v n ks → RefS n ks → Q v H'
theorem RefAt.same {H H' : Hp} {v : V} {n : Str} {ks : List Str} (h : RefAt H v n ks) (s : Same H H') : RefAt H' v n ks := by
  obtain ⟨a, k, rfl, h1, h2⟩ := h
  exact ⟨a, k, rfl, s _ _ h1, s _ _ h2⟩
theorem RefAt.chg {H H' : Hp} {b : Addr} {N : Nat} {v : V} {n : Str} {ks : List Str} (h : RefAt H v n ks) (c : Chg b H H') (B : BagAt N b H) : RefAt H' v n ks := by
  obtain ⟨a, k, rfl, h1, h2⟩ := h
  exact ⟨a, k, rfl, c _ _ (B.neT h1) h1, c _ _ (B.neT h2) h2⟩
theorem RefAt.new {H : Hp} {p : Addr} {o : HO} {v : V} {n : Str} {ks : List Str} (h : RefAt H v n ks) (e : H p = none) : RefAt (upd H p o) v n ks := h.same (same_new e)
end Sk

namespace Sk
open PySem PySem.Spec PyProof.Rows L2
open PySem.W (Datum Tup)
/-! ### == of data -/
def rEqP (K : PySem.W.Frag) : R2 := fun x y H Q => ∃ d e, Dp K H x d ∧ Dp K H y e ∧ d.plain = true ∧ e.plain = true ∧ d.depth ≤ 64 ∧ Q (.bl (PyData.eqv d e)) H
def rNeP (K : PySem.W.Frag) : R2 := fun x y H Q => ∃ d e, Dp K H x d ∧ Dp K H y e ∧ d.plain = true ∧ e.plain = true ∧ d.depth ≤ 64 ∧ Q (.bl (!PyData.eqv d e)) H
section
variable {X : Cx}
theorem k_eqP (K : PySem.W.Frag) (hu : X.A.units + 64 < cLine) (e : X.K = K := by rfl) : OpR X (compareOp .Eq) (rEqP K) := by
  subst e
  intro pins s σ H x y v u Q I rx ry h
  obtain ⟨d, e, hd, he, sd, se, dl, q⟩ := h
  obtain ⟨as, r1⟩ := Dp.reads I d x v hd rx
  obtain ⟨bs, r2⟩ := Dp.reads I e y u he ry
  exact PySem.SeqAt.eq_plain r1 r2 sd se (by omega) ⟨.bl _, H, I, rfl, q⟩
theorem k_neP (K : PySem.W.Frag) (hu : X.A.units + 64 < cLine) (e : X.K = K := by rfl) : OpR X (compareOp .NotEq) (rNeP K) := by
  subst e
  intro pins s σ H x y v u Q I rx ry h
  obtain ⟨d, e, hd, he, sd, se, dl, q⟩ := h
  obtain ⟨as, r1⟩ := Dp.reads I d x v hd rx
  obtain ⟨bs, r2⟩ := Dp.reads I e y u he ry
  exact PySem.SeqAt.ne_plain r1 r2 sd se (by omega) ⟨.bl _, H, I, rfl, q⟩
end
/-- a value that bears a datum -/
abbrev DV {α : Type} [DecidableEq α] [Datum α] (K : PySem.W.Frag) (H : Hp) (v : V) (x : α) : Prop := Dp K H v (Datum.toD x)
section
variable {α : Type} [DecidableEq α] [Datum α] {K : PySem.W.Frag} {H : Hp} {v w : V} {x y : α} {Q : VK}
theorem rd_eqP (h1 : DV K H v x) (h2 : DV K H w y) (hd : Datum.depth α ≤ 64) (q : Q (.bl (decide (x = y))) H) : rEqP K v w H Q :=
  ⟨_, _, h1, h2, Datum.plain x, Datum.plain y, Nat.le_trans (Datum.depth_le x) hd, by rw [Datum.eqv]; exact q⟩
theorem rd_neP (h1 : DV K H v x) (h2 : DV K H w y) (hd : Datum.depth α ≤ 64) (q : Q (.bl (!decide (x = y))) H) : rNeP K v w H Q :=
  ⟨_, _, h1, h2, Datum.plain x, Datum.plain y, Nat.le_trans (Datum.depth_le x) hd, by rw [Datum.eqv]; exact q⟩
theorem dv_all {f : α → V} : ∀ {xs : List α}, (∀ x ∈ xs, DV K H (f x) x) → DpAll K H (xs.map f) (xs.map Datum.toD)
  | [], _ => .nil
  | x :: r, h => .cons (h x List.mem_cons_self) (dv_all fun y hy => h y (List.mem_cons_of_mem _ hy))
theorem dv_lst {f : α → V} {a : Addr} {xs : List α} (h : SqL K H a (xs.map f)) (hx : ∀ x ∈ xs, DV K H (f x) x) : DV K H (.ref a) xs := Dp.lst h (dv_all hx)
theorem dv_tup {f : α → V} {a : Addr} {xs : List α} (h : SqT K H a (xs.map f)) (hx : ∀ x ∈ xs, DV K H (f x) x) : DV K H (.ref a) (Tup.mk xs) := Dp.tup h (dv_all hx)
end
theorem dv_strs {K : PySem.W.Frag} {H : Hp} {a : Addr} {ks : List Str} (h : SqT K H a (ks.map V.str)) : DV K H (.ref a) (Tup.mk ks) := dv_tup h fun x _ => Dp.str x
theorem dv_ints {K : PySem.W.Frag} {H : Hp} {a : Addr} {ks : List Int} (h : SqL K H a (ks.map V.int)) : DV K H (.ref a) ks := dv_lst h fun x _ => Dp.int x
theorem dv_bools {K : PySem.W.Frag} {H : Hp} {a : Addr} {ks : List Bool} (h : SqL K H a (ks.map V.bl)) : DV K H (.ref a) ks := dv_lst h fun x _ => Dp.bl x
/-! ### stems -/
def stemB (n1 : Str) (k1 : List Str) (n2 : Str) (k2 : List Str) : Bool := decide (n1 = n2) && decide (k2.take k1.length = k1)
def meetB (n1 : Str) (k1 : List Str) (n2 : Str) (k2 : List Str) : Bool := stemB n1 k1 n2 k2 || stemB n2 k2 n1 k1
def spRel (f : Str → List Str → Str → List Str → Bool) : Sp := fun vs H Q _ => ∃ v1 v2 n1 k1 n2 k2, vs = [v1, v2] ∧ RefAt H v1 n1 k1 ∧ RefAt H v2 n2 k2 ∧ k1.length ≤ 1000 ∧ k2.length ≤ 1000 ∧
  ∀ H', Same H H' → Q (.bl (f n1 k1 n2 k2)) H'
theorem cutV_to {xs : List V} {n : Nat} : cutV xs none (some (n : Int)) = xs.take n := by
  unfold cutV
  rw [HT.sIx_none, HT.sIx_nat, List.drop_zero, Nat.sub_zero, List.take_eq_take_iff]
  omega
theorem cutV_from {xs : List V} {n : Nat} : cutV xs (some (n : Int)) none = xs.drop n := by
  unfold cutV
  rw [HT.sIx_none, HT.sIx_nat]
  by_cases h : n ≤ xs.length
  · rw [Nat.min_eq_left h]
    exact List.take_of_length_le (by rw [List.length_drop]; omega)
  · rw [List.drop_eq_nil_of_le (by omega : xs.length ≤ min n xs.length), List.drop_eq_nil_of_le (by omega)]
    exact List.take_nil
/-- t[:n] of a tuple: some tuple of its first n -/
theorem rd_takeT {K : PySem.W.Frag} {H : Hp} {a : Addr} {xs : List V} {n : Nat} {Q : VK} (h : SqT K H a xs) (q : ∀ p H', Same H H' → SqT K H' p (xs.take n) → Q (.ref p) H') : rSlA K (.ref a) none (some (n : Int)) H Q := by
  refine ⟨a, xs, rfl, h, fun ⟨_, e⟩ => q a H (.refl H) ?_, fun _ p hp => q p _ (same_new hp) ?_⟩
  · rw [HT.sIx_nat] at e
    rw [List.take_of_length_le (by omega)]
    exact h
  · rw [cutV_to]
    exact .inl (.inl upd_same)
theorem rd_dropT {K : PySem.W.Frag} {H : Hp} {a : Addr} {xs : List V} {n : Nat} {Q : VK} (h : SqT K H a xs) (q : ∀ p H', Same H H' → SqT K H' p (xs.drop n) → Q (.ref p) H') : rSlA K (.ref a) (some (n : Int)) none H Q := by
  refine ⟨a, xs, rfl, h, fun ⟨e, _⟩ => q a H (.refl H) ?_, fun _ p hp => q p _ (same_new hp) ?_⟩
  · rw [HT.sIx_nat] at e
    by_cases hn : n = 0
    · rw [hn, List.drop_zero]
      exact h
    · have h0 : xs = [] := List.length_eq_zero_iff.mp (by omega)
      subst h0
      rw [List.drop_nil]
      exact h
  · rw [cutV_from]
    exact .inl (.inl upd_same)
end Sk
namespace Sk
open PySem PySem.Spec PyProof.Rows L2
section
variable {K : PySem.W.Frag} {σ : L2.St}
theorem same_mut {H H' : Hp} {p : Addr} {o : HO} (s : Same H H') (n : H p = none) : Same H (upd H' p o) := fun a u e => by
  rw [upd_ne (ne_of_none e n)]
  exact s a u e
/-- [elt for k in range(n) if ..], nothing but new things made -/
theorem lc_pure_range {te : TE} {tt : TT} {k n : Nat} {H1 : Hp} {D : Addr} {Qd : Hp → Prop} (p : Nat → Bool) (f : Nat → V) (hn : n ≤ 100000) (hD : H1 D = none)
    (ht : ∀ i H2, i < n → Same H1 H2 → ∀ R : Bool → Hp → Prop, (∀ H3, Same H2 H3 → R (p i) H3) → tt ((wipe σ [k]).set k (some (.int (0 + (i : Int))))) H2 R)
    (he : ∀ i H2, i < n → p i = true → Same H1 H2 → ∀ R : VK, (∀ H3, Same H2 H3 → R (f i) H3) → te ((wipe σ [k]).set k (some (.int (0 + (i : Int))))) H2 R)
    (hd : ∀ H2, Same H1 H2 → H2 D = some (.lst (((List.range n).filter p).map f)) → Qd H2) :
    ∃ W : Nat → Nat → Hp → Prop, (∃ m, W 0 m (upd H1 D (.lst []))) ∧ ∀ i m H, W i m H →
      ((Itr 0 n).stop i H ∧ Qd H) ∨ ((Itr 0 n).go i H ∧ ∃ Nx : Hp → Prop, (∀ H', Nx H' → ∃ m', m' < m ∧ W (i + 1) m' H') ∧ ∀ x H', (Itr 0 n).yld i H x H' → gName k x (wipe σ [k]) H' fun σ2 H2 => wipe σ2 [k] = wipe σ [k] ∧ tt σ2 H2 fun b H3 =>
        if b = true then te σ2 H3 fun y H4 => ∃ acc, H4 D = some (.lst acc) ∧ acc.length < sizeLine ∧ Nx (upd H4 D (.lst (acc ++ [y]))) else Nx H3) := by
  refine lc_range (lo := 0) (n := n) (fun i H2 => Same H1 H2 ∧ H2 D = some (.lst (((List.range i).filter p).map f))) ?_ ?_ ?_
  · exact ⟨same_new hD, upd_same⟩
  · rintro i H2 hi ⟨s2, e2⟩
    refine ⟨wipe1, ?_⟩
    refine ht i H2 hi s2 _ fun H3 s3 => ?_
    have e3 := s3 _ _ e2
    cases hp : p i with
    | true =>
      show (if true = true then _ else _)
      rw [if_pos rfl]
      refine he i H3 hi hp (s2.trans s3) _ fun H4 s4 => ?_
      refine ⟨_, s4 _ _ e3, Evl.sz_lt ?_, same_mut ((s2.trans s3).trans s4) hD, ?_⟩
      · rw [List.length_map]
        have := List.length_filter_le p (List.range i)
        rw [List.length_range] at this
        omega
      · rw [upd_same, List.range_succ, List.filter_append, List.filter_cons, hp, if_pos rfl, List.filter_nil, List.map_append]
        rfl
    | false =>
      show (if false = true then _ else _)
      rw [if_neg Bool.false_ne_true]
      refine ⟨s2.trans s3, ?_⟩
      rw [e3, List.range_succ, List.filter_append, List.filter_cons, hp, if_neg Bool.false_ne_true, List.filter_nil, List.append_nil]
  · rintro H2 ⟨s2, e2⟩
    exact hd H2 s2 e2
/-- [elt for x in xs if ..] -/
theorem lc_pure_list {te : TE} {tt : TT} {k : Nat} {H1 : Hp} {D a : Addr} {xs : List V} {Qd : Hp → Prop} (p : V → Bool) (f : V → V) (hn : xs.length ≤ 100000) (hD : H1 D = none) (hS : SqL K H1 a xs)
    (ht : ∀ x H2, x ∈ xs → Same H1 H2 → ∀ R : Bool → Hp → Prop, (∀ H3, Same H2 H3 → R (p x) H3) → tt ((wipe σ [k]).set k (some x)) H2 R)
    (he : ∀ x H2, x ∈ xs → p x = true → Same H1 H2 → ∀ R : VK, (∀ H3, Same H2 H3 → R (f x) H3) → te ((wipe σ [k]).set k (some x)) H2 R)
    (hd : ∀ H2, Same H1 H2 → H2 D = some (.lst ((xs.filter p).map f)) → Qd H2) :
    ∃ W : Nat → Nat → Hp → Prop, (∃ m, W 0 m (upd H1 D (.lst []))) ∧ ∀ i m H, W i m H →
      ((Itl K a).stop i H ∧ Qd H) ∨ ((Itl K a).go i H ∧ ∃ Nx : Hp → Prop, (∀ H', Nx H' → ∃ m', m' < m ∧ W (i + 1) m' H') ∧ ∀ x H', (Itl K a).yld i H x H' → gName k x (wipe σ [k]) H' fun σ2 H2 => wipe σ2 [k] = wipe σ [k] ∧ tt σ2 H2 fun b H3 =>
        if b = true then te σ2 H3 fun y H4 => ∃ acc, H4 D = some (.lst acc) ∧ acc.length < sizeLine ∧ Nx (upd H4 D (.lst (acc ++ [y]))) else Nx H3) := by
  refine lc_list (K := K) (a := a) (xs := xs) (fun i H2 => Same H1 H2 ∧ H2 D = some (.lst (((xs.take i).filter p).map f))) ?_ ?_ ?_ ?_
  · exact ⟨same_new hD, upd_same⟩
  · exact fun i H2 _ h => h.1.seq hS
  · rintro i x H2 hx ⟨s2, e2⟩
    have hm : x ∈ xs := List.mem_of_getElem? hx
    refine ⟨wipe1, ?_⟩
    refine ht x H2 hm s2 _ fun H3 s3 => ?_
    have e3 := s3 _ _ e2
    cases hp : p x with
    | true =>
      show (if true = true then _ else _)
      rw [if_pos rfl]
      refine he x H3 hm hp (s2.trans s3) _ fun H4 s4 => ?_
      refine ⟨_, s4 _ _ e3, Evl.sz_lt ?_, same_mut ((s2.trans s3).trans s4) hD, ?_⟩
      · rw [List.length_map]
        have := List.length_filter_le p (xs.take i)
        rw [List.length_take] at this
        have hi := (List.getElem?_eq_some_iff.mp hx).1
        omega
      · rw [upd_same, List.take_add_one, hx, List.filter_append]
        show _ = some (HO.lst ((_ ++ List.filter p [x]).map f))
        rw [List.filter_cons, hp, if_pos rfl, List.filter_nil, List.map_append]
        rfl
    | false =>
      show (if false = true then _ else _)
      rw [if_neg Bool.false_ne_true]
      refine ⟨s2.trans s3, ?_⟩
      rw [e3, List.take_add_one, hx, List.filter_append]
      show _ = some (HO.lst ((_ ++ List.filter p [x]).map f))
      rw [List.filter_cons, hp, if_neg Bool.false_ne_true, List.filter_nil, List.append_nil]
  · rintro H2 ⟨s2, e2⟩
    rw [List.take_length] at e2
    exact hd H2 s2 e2
end
end Sk
namespace Sk
open PySem PySem.Spec PyProof.Rows L2
section
variable {K : PySem.W.Frag} {H : Hp} {a b : Addr} {xs ys : List V} {n : Nat} {Q : VK}
theorem rd_takeH (h : H a = some (.tup xs)) (q : ∀ p H', Same H H' → H' p = some (.tup (xs.take n)) → Q (.ref p) H') : rSlA K (.ref a) none (some (n : Int)) H Q := by
  refine ⟨a, xs, rfl, .inl (.inl h), fun ⟨_, e⟩ => q a H (.refl H) ?_, fun _ p hp => q p _ (same_new hp) ?_⟩
  · rw [HT.sIx_nat] at e
    rw [List.take_of_length_le (by omega)]
    exact h
  · rw [cutV_to]
    exact upd_same
theorem rd_dropH (h : H a = some (.tup xs)) (q : ∀ p H', Same H H' → H' p = some (.tup (xs.drop n)) → Q (.ref p) H') : rSlA K (.ref a) (some (n : Int)) none H Q := by
  refine ⟨a, xs, rfl, .inl (.inl h), fun ⟨e, _⟩ => q a H (.refl H) ?_, fun _ p hp => q p _ (same_new hp) ?_⟩
  · rw [HT.sIx_nat] at e
    by_cases hn : n = 0
    · rw [hn, List.drop_zero]
      exact h
    · have h0 : xs = [] := List.length_eq_zero_iff.mp (by omega)
      subst h0
      rw [List.drop_nil]
      exact h
  · rw [cutV_from]
    exact upd_same
theorem rd_dropI {j : Int} (hj : j = (n : Int)) (h : H a = some (.tup xs)) (q : ∀ p H', Same H H' → H' p = some (.tup (xs.drop n)) → Q (.ref p) H') : rSlA K (.ref a) (some j) none H Q := by
  subst hj
  exact rd_dropH h q
theorem rd_takeI {j : Int} (hj : j = (n : Int)) (h : H a = some (.tup xs)) (q : ∀ p H', Same H H' → H' p = some (.tup (xs.take n)) → Q (.ref p) H') : rSlA K (.ref a) none (some j) H Q := by
  subst hj
  exact rd_takeH h q
theorem rd_catH (h : H a = some (.tup xs)) (h2 : H b = some (.tup ys)) (l : xs.length + ys.length ≤ 100000) (q : ∀ p H', Same H H' → H' p = some (.tup (xs ++ ys)) → Q (.ref p) H') : rCatA K (.ref a) (.ref b) H Q := by
  refine ⟨a, b, xs, ys, rfl, rfl, .inl (.inl h), .inl (.inl h2), Evl.sz_of l, fun e => ?_, fun _ e => ?_, fun _ _ p hp => q p _ (same_new hp) upd_same⟩
  · subst e
    exact q b H (.refl H) h2
  · subst e
    exact q a H (.refl H) (by rw [List.append_nil]; exact h)
end
end Sk
namespace Sk
open PySem PySem.Spec PyProof.Rows L2
/-- (n, k) made of a name and a tuple of keys -/
theorem rd_ref {H : Hp} {k : Addr} {n : Str} {ks : List Str} {Q : VK} (h : H k = some (.tup (ks.map V.str))) (q : ∀ v H', Same H H' → RefAt H' v n ks → Q v H') :
    [V.str n, V.ref k].length ≤ sizeLine ∧ ∀ p, H p = none → Q (.ref p) (upd H p (.tup [.str n, .ref k])) :=
  ⟨Evl.sz_of (by show 2 ≤ 100000; decide), fun p hp => q _ _ (same_new hp) ⟨p, k, rfl, upd_same, same_new hp _ _ h⟩⟩
theorem keys_app {xs ys : List Str} (hx : ∀ k ∈ xs, KeyS k) (hy : ∀ k ∈ ys, KeyS k) : ∀ k ∈ xs ++ ys, KeyS k := fun k h => by
  rcases List.mem_append.mp h with h | h
  · exact hx k h
  · exact hy k h
def spBeside : Sp := fun vs H Q _ => ∃ (b : Addr) (v : V) (N : Nat) (n : Str) (ks : List Str), vs = [.ref b, v] ∧ N < 2 ^ 47 ∧ BagAt N b H ∧ RefAt H v n ks ∧ RefS n ks ∧
  ∀ (H' : Hp) (v : V) (n : Str) (ks : List Str), Chg b H H' → BagAt (N + 40000) b H' → RefAt H' v n ks → RefS n ks → Q v H'
end Sk
namespace Sk
open PySem PySem.Spec PyProof.Rows L2
theorem same_chg {b : Addr} {H0 H1 H2 : Hp} (s : Same H0 H1) (c : Chg b H1 H2) (n : H0 b = none) : Same H0 H2 := fun a o e => c a o (ne_of_none e n) (s a o e)
theorem same_upd {p : Addr} {H0 H1 : Hp} {o : HO} (s : Same H0 H1) (n : H0 p = none) : Same H0 (upd H1 p o) := same_mut s n
theorem RefAt.updL {H : Hp} {p : Addr} {o : HO} {xs : List V} {v : V} {n : Str} {ks : List Str} (h : RefAt H v n ks) (e : H p = some (.lst xs)) : RefAt (upd H p o) v n ks := by
  obtain ⟨a, k, rfl, h1, h2⟩ := h
  have n1 : a ≠ p := ne_of h1 e (by intro z; cases z)
  have n2 : k ≠ p := ne_of h2 e (by intro z; cases z)
  exact ⟨a, k, rfl, by rw [upd_ne n1]; exact h1, by rw [upd_ne n2]; exact h2⟩
def AllRef (H : Hp) (vs : List V) : Prop := ∀ v ∈ vs, ∃ n ks, RefAt H v n ks ∧ RefS n ks
theorem AllRef.map {H H' : Hp} {vs : List V} (h : AllRef H vs) (f : ∀ v n ks, RefAt H v n ks → RefAt H' v n ks) : AllRef H' vs := fun v hv => by
  obtain ⟨n, ks, r, s⟩ := h v hv
  exact ⟨n, ks, f v n ks r, s⟩
def spLaw (K : PySem.W.Frag) : Sp := fun vs H Q _ => ∃ (a : Addr) (ns : List Int), vs = [.ref a] ∧ SqL K H a (ns.map V.int) ∧ ns.length ≤ 63 ∧ (∀ z ∈ ns, Builtin.Int.intBits z ≤ 1048576) ∧ ∀ H', Q (.bl true) H'
theorem spLaw_start {K : PySem.W.Frag} {H : Hp} {a : Addr} {ns : List Int} (hl : ns.length ≤ 63) (hb : ∀ z ∈ ns, Builtin.Int.intBits z ≤ 1048576) (hO : Only H) (hS : SqL K H a (ns.map V.int)) : spLaw K [.ref a] H (fun v _ => v = .bl true) fun _ _ _ => False :=
  ⟨a, ns, rfl, hS, hl, hb, fun _ => rfl⟩
theorem turns_of (n m : Int) (h1 : 1 ≤ m) (h2 : m ≤ 1000) : ∃ k : Int, (if (if n < m then n else m) > 1 then (if n < m then n else m) else 1) = k ∧ 1 ≤ k ∧ k ≤ m := by
  refine ⟨_, rfl, ?_, ?_⟩ <;> repeat' split
  all_goals omega
/-- isinstance(b, bool) of a truth -/
theorem rd_isBool {K : PySem.W.Frag} {b : Bool} {H : Hp} {Q : VK} (q : Q (.bl true) H) : rIsi K [.bl b, .ty "bool"] H Q :=
  ⟨_, _, _, _, true, rfl, .ty "bool", .base (.bl b), kit_ty (by decide +kernel), q⟩
end Sk

namespace Sk
open PySem PySem.Spec PyProof.Rows L2
open PySem.NumText (AllDigits digitsVal digitsVal_snoc digitsVal_pos toDigits_digitsVal takeWhile_all)
/-! ### numbers of worths, on rows of signs -/
def isMark (c : Nat) : Bool := c == 43 || c == 45
def isFig (c : Nat) : Bool := decide (48 ≤ c) && decide (c ≤ 57)
theorem isFig_iff {c : Nat} : isFig c = true ↔ 48 ≤ c ∧ c ≤ 57 := by unfold isFig; rw [Bool.and_eq_true, decide_eq_true_eq, decide_eq_true_eq]
theorem isMark_iff {c : Nat} : isMark c = true ↔ c = 43 ∨ c = 45 := by unfold isMark; rw [Bool.or_eq_true, beq_iff_eq, beq_iff_eq]
def marksOf (l : List Nat) : List Nat := l.takeWhile isMark
def figsOf (l : List Nat) : List Nat := (l.dropWhile isMark).takeWhile isFig
def numL (l : List Nat) : Int := if (marksOf l).count 45 % 2 = 1 then 0 - (digitsVal (figsOf l) : Int) else (digitsVal (figsOf l) : Int)
def isNumF (l f : List Nat) : Bool := if f = [] ∨ (f.takeWhile isFig).length < f.length then false else (l == [48] || !(f.head? == some 48))
def isNumL (l : List Nat) : Bool := isNumF l (if l.take 1 = [45] then l.drop 1 else l)
theorem isNumF_of {l f : List Nat} (h1 : ¬ (f = [] ∨ (f.takeWhile isFig).length < f.length)) (h2 : l = [48] ∨ f.head? ≠ some 48) : isNumF l f = true := by
  unfold isNumF
  rw [if_neg h1]
  rcases h2 with h | h
  · rw [h]; rfl
  · rw [beq_eq_false_iff_ne.mpr h, Bool.not_false, Bool.or_true]
theorem isNumF_to {l f : List Nat} (h : isNumF l f = true) : ¬ (f = [] ∨ (f.takeWhile isFig).length < f.length) ∧ (l = [48] ∨ f.head? ≠ some 48) := by
  unfold isNumF at h
  split at h
  · cases h
  · rename_i hw
    refine ⟨hw, ?_⟩
    rw [Bool.or_eq_true, beq_iff_eq, Bool.not_eq_true', beq_eq_false_iff_ne] at h
    exact h
def decL (n : Nat) : List Nat := (Nat.toDigits 10 n).map Char.toNat
def intL (n : Int) : List Nat := if n < 0 then 45 :: decL n.natAbs else decL n.natAbs
theorem digChar {d : Nat} (h : d < 10) : (Nat.digitChar d).toNat = 48 + d := by
  have key : ∀ d < 10, (Nat.digitChar d).toNat = 48 + d := by decide
  exact key d h
theorem decL_lt {n : Nat} (h : n < 10) : decL n = [48 + n] := by
  unfold decL
  rw [Nat.toDigits_of_lt_base h, List.map_singleton, digChar h]
theorem decL_ge {n : Nat} (h : 10 ≤ n) : decL n = decL (n / 10) ++ [48 + n % 10] := by
  unfold decL
  rw [Nat.toDigits_of_base_le (by decide) h, List.map_append, List.map_singleton, digChar (Nat.mod_lt _ (by decide))]
theorem decL_ne (n : Nat) : decL n ≠ [] := by
  by_cases h : n < 10
  · rw [decL_lt h]; exact List.cons_ne_nil _ _
  · rw [decL_ge (by omega)]; exact List.append_ne_nil_of_right_ne_nil _ (List.cons_ne_nil _ _)
theorem decL_digits : ∀ n : Nat, AllDigits (decL n) := by
  intro n
  induction n using Nat.strongRecOn with
  | ind n ih =>
    by_cases h : n < 10
    · rw [decL_lt h]
      intro c hc
      rw [List.mem_singleton.mp hc]
      omega
    · rw [decL_ge (by omega)]
      intro c hc
      rcases List.mem_append.mp hc with hc | hc
      · exact ih (n / 10) (by omega) c hc
      · rw [List.mem_singleton.mp hc]
        omega
theorem decL_val : ∀ n : Nat, digitsVal (decL n) = n := by
  intro n
  induction n using Nat.strongRecOn with
  | ind n ih =>
    by_cases h : n < 10
    · rw [decL_lt h]
      show 0 * 10 + (48 + n - 48) = n
      omega
    · rw [decL_ge (by omega), digitsVal_snoc, ih (n / 10) (by omega)]
      omega
/-- the first figure is no nought, but of nought itself -/
theorem decL_head : ∀ n : Nat, n = 0 ∨ ∃ c r, decL n = c :: r ∧ 49 ≤ c := by
  intro n
  induction n using Nat.strongRecOn with
  | ind n ih =>
    by_cases h : n < 10
    · by_cases h0 : n = 0
      · exact .inl h0
      · exact .inr ⟨48 + n, [], decL_lt h, by omega⟩
    · rcases ih (n / 10) (by omega) with e | ⟨c, r, e, hc⟩
      · omega
      · exact .inr ⟨c, r ++ [48 + n % 10], by rw [decL_ge (by omega), e]; rfl, hc⟩
theorem mem_takeWhile {p : Nat → Bool} {c : Nat} : ∀ {l : List Nat}, c ∈ l.takeWhile p → p c = true
  | [], h => nomatch h
  | d :: r, h => by
    cases hd : p d with
    | false => rw [List.takeWhile_cons_of_neg (by rw [hd]; exact Bool.false_ne_true)] at h; cases h
    | true =>
      rw [List.takeWhile_cons_of_pos hd] at h
      rcases List.mem_cons.mp h with rfl | h
      · exact hd
      · exact mem_takeWhile h
theorem takeWhile_all' {p : Nat → Bool} {l : List Nat} (h : ∀ c ∈ l, p c = true) : l.takeWhile p = l := takeWhile_all h
theorem figs_all {l : List Nat} (h : AllDigits l) : l.takeWhile isFig = l := takeWhile_all fun c hc => isFig_iff.mpr (h c hc)
theorem dropWhile_head {p : Nat → Bool} {c : Nat} {r : List Nat} (h : p c = false) : (c :: r).dropWhile p = c :: r := by
  rw [List.dropWhile_cons_of_neg (by rw [h]; exact Bool.false_ne_true)]
theorem noMark {c : Nat} (h : 48 ≤ c ∧ c ≤ 57) : isMark c = false := by
  cases e : isMark c with
  | false => rfl
  | true => have := isMark_iff.mp e; omega
theorem num_digits {l : List Nat} (h : AllDigits l) : numL l = (digitsVal l : Int) := by
  cases l with
  | nil => rfl
  | cons c r =>
    have hm := noMark h.head
    unfold numL marksOf figsOf
    rw [List.takeWhile_cons_of_neg (by rw [hm]; exact Bool.false_ne_true), dropWhile_head hm, figs_all h]
    rfl
theorem num_minus {l : List Nat} (h : AllDigits l) : numL (45 :: l) = 0 - (digitsVal l : Int) := by
  have hm : isMark 45 = true := rfl
  have hn : (45 :: l).takeWhile isMark = [45] ∧ (45 :: l).dropWhile isMark = l := by
    rw [List.takeWhile_cons_of_pos hm, List.dropWhile_cons_of_pos hm]
    cases l with
    | nil => exact ⟨rfl, rfl⟩
    | cons c r =>
      have hm := noMark h.head
      rw [List.takeWhile_cons_of_neg (by rw [hm]; exact Bool.false_ne_true), dropWhile_head hm]
      exact ⟨rfl, rfl⟩
  unfold numL marksOf figsOf
  rw [hn.1, hn.2, figs_all h]
  rfl
theorem num_int (n : Int) : numL (intL n) = n := by
  unfold intL
  split
  · rw [num_minus (decL_digits _), decL_val]
    omega
  · rw [num_digits (decL_digits _), decL_val]
    omega
theorem dig_head45 {l : List Nat} (h : AllDigits l) : l.take 1 ≠ [45] := by
  cases l with
  | nil => exact fun e => nomatch e
  | cons c r =>
    intro e
    have e1 : c = 45 := (List.cons.inj e).1
    have := h.head
    omega
theorem isNum_int (n : Int) : isNumL (intL n) = true := by
  have hd := decL_digits n.natAbs
  have hne := decL_ne n.natAbs
  have hw : ¬ (decL n.natAbs = [] ∨ ((decL n.natAbs).takeWhile isFig).length < (decL n.natAbs).length) := by
    rw [figs_all hd]
    intro h
    rcases h with h | h
    · exact hne h
    · omega
  unfold intL isNumL
  split
  · rename_i hn
    rw [if_pos (show List.take 1 (45 :: decL n.natAbs) = [45] from rfl)]
    refine isNumF_of hw ?_
    rcases decL_head n.natAbs with e | ⟨c, r, e, hc⟩
    · omega
    · refine .inr ?_
      rw [List.drop_succ_cons, List.drop_zero, e]
      exact fun z => by have := Option.some.inj z; omega
  · rw [if_neg (dig_head45 hd)]
    refine isNumF_of hw ?_
    rcases decL_head n.natAbs with e | ⟨c, r, e, hc⟩
    · rw [e]
      exact .inl (decL_lt (by decide))
    · refine .inr ?_
      rw [e]
      exact fun z => by have := Option.some.inj z; omega
theorem all_of_len {l : List Nat} (h : ¬ (l.takeWhile isFig).length < l.length) : AllDigits l := by
  induction l with
  | nil => exact fun c hc => nomatch hc
  | cons d r ih =>
    cases hd : isFig d with
    | false =>
      rw [List.takeWhile_cons_of_neg (by rw [hd]; exact Bool.false_ne_true)] at h
      exact absurd (Nat.succ_pos _) h
    | true =>
      rw [List.takeWhile_cons_of_pos hd, List.length_cons, List.length_cons] at h
      intro c hc
      rcases List.mem_cons.mp hc with rfl | hc
      · exact isFig_iff.mp hd
      · exact ih (by omega) c hc
theorem dec_of {l : List Nat} (h : AllDigits l) (hne : l ≠ []) (hh : l = [48] ∨ l.head? ≠ some 48) : decL (digitsVal l) = l := by
  obtain ⟨c, r, rfl⟩ : ∃ c r, l = c :: r := by
    cases l with
    | nil => exact absurd rfl hne
    | cons c r => exact ⟨c, r, rfl⟩
  have e : Nat.toDigits 10 (digitsVal (c :: r)) = (c :: r).map Char.ofNat := by
    refine toDigits_digitsVal r.length (c :: r) rfl h ?_
    rcases hh with e | hh
    · have := (List.cons.inj e).2
      subst this
      exact .inl rfl
    · have h1 := h.head
      have h2 : c ≠ 48 := fun z => hh (by rw [z]; rfl)
      exact .inr ⟨c, r, rfl, by omega⟩
  unfold decL
  rw [e, List.map_map]
  refine (List.map_congr_left fun d hd => ?_).trans (List.map_id _)
  have hd := h d hd
  have key : ∀ d, d ≤ 57 → (Char.ofNat d).toNat = d := by decide
  exact key d hd.2
theorem isNum_own {l : List Nat} (h : isNumL l = true) : intL (numL l) = l := by
  unfold isNumL at h
  by_cases h45 : l.take 1 = [45]
  · rw [if_pos h45] at h
    obtain ⟨f, rfl⟩ : ∃ f, l = 45 :: f := by
      cases l with
      | nil => cases h45
      | cons c r => exact ⟨r, by rw [(List.cons.inj h45).1]⟩
    obtain ⟨hw, hh⟩ := isNumF_to h
    have hf : f ≠ [] := fun z => hw (.inl z)
    have hd : AllDigits f := all_of_len fun z => hw (.inr z)
    have hh : f.head? ≠ some 48 := hh.resolve_left fun z => by have := (List.cons.inj z).1; omega
    obtain ⟨c, r, rfl⟩ : ∃ c r, f = c :: r := by
      cases f with
      | nil => exact absurd rfl hf
      | cons c r => exact ⟨c, r, rfl⟩
    have h1 := hd.head
    have hp : 0 < digitsVal (c :: r) := digitsVal_pos (by
      have : c ≠ 48 := fun z => hh (by rw [z]; rfl)
      omega)
    have e := dec_of hd hf (.inr hh)
    rw [num_minus hd]
    unfold intL
    rw [if_pos (by omega), show (0 - (digitsVal (c :: r) : Int)).natAbs = digitsVal (c :: r) by omega, e]
  · rw [if_neg h45] at h
    obtain ⟨hw, hh⟩ := isNumF_to h
    have hf : l ≠ [] := fun z => hw (.inl z)
    have hd : AllDigits l := all_of_len fun z => hw (.inr z)
    rw [num_digits hd]
    unfold intL
    rw [if_neg (by omega), show (digitsVal l : Int).natAbs = digitsVal l by omega]
    exact dec_of hd hf hh
theorem isNum_iff (l : List Nat) : isNumL l = decide (intL (numL l) = l) := by
  cases h : isNumL l with
  | true => exact (decide_eq_true (isNum_own h)).symm
  | false =>
    refine (decide_eq_false fun e => ?_).symm
    rw [← e, isNum_int] at h
    cases h
/-- a number's own text -/
theorem tl_int (n : Int) : tl (Str.ofString (toString n)) = intL n := by
  rw [tl, Str.ofString_eq_toList, Int.toString_eq_repr, Int.repr_eq_if]
  show ((if 0 ≤ n then n.toNat.repr else "-" ++ (-n).toNat.repr).toList.map Char.toNat) = _
  unfold intL
  split
  · rw [if_neg (by omega), Nat.toList_repr]
    unfold decL
    rw [show n.natAbs = n.toNat by omega]
  · rw [if_pos (by omega), String.toList_append, Nat.toList_repr, List.map_append]
    unfold decL
    rw [show n.natAbs = (-n).toNat by omega]
    rfl
/-- the number of a text, whether it is a number's own -/
def numS (s : Str) : Int := numL (tl s)
def isNumS (s : Str) : Bool := isNumL (tl s)
def intS (n : Int) : Str := Str.ofString (toString n)
theorem isNumS_iff (s : Str) : isNumS s = decide (intS (numS s) = s) := by
  unfold isNumS numS intS
  rw [isNum_iff]
  exact decide_eq_decide.mpr ⟨fun h => tl_inj (by rw [tl_int]; exact h), fun h => by rw [← tl_int, h]⟩
theorem numS_int (n : Int) : numS (intS n) = n := by unfold numS intS; rw [tl_int, num_int]
theorem isNumS_int (n : Int) : isNumS (intS n) = true := by unfold isNumS intS; rw [tl_int, isNum_int]
end Sk

namespace Sk
open PySem PySem.Spec PyProof.Rows L2
/-! ### text * number -/
def rRepS : R2 := fun x y H Q => ∃ (z : Str) (n : Int), x = .str z ∧ y = .int n ∧ 0 ≤ n ∧ n ≤ 1000 ∧ z.length ≤ 10000 ∧ ∀ r : Str, (r.length : Int) = z.length * n → (∀ c ∈ tl r, c ∈ tl z) → Q (.str r) H
theorem mulOk {z : Str} {n : Int} (h0 : 0 ≤ n) (h1 : n ≤ 1000) (hz : z.length ≤ 10000) : MulOk z n := by
  refine ⟨?_, fun h _ => ?_, fun h _ => ?_⟩
  · rw [decide_eq_false (by omega), decide_eq_false (by omega)]; rfl
  · have h2 : (10000 : Int) ≤ (2 ^ 63 - 1) / n := by
      rw [Int.le_ediv_iff_mul_le (by omega)]
      omega
    omega
  · have h2 : z.length * n.toNat ≤ 10000 * 1000 := Nat.mul_le_mul hz (by omega)
    exact PyProof.Rows.short24 (by omega)
theorem foldl_app (l : List Nat) : ∀ (k : Nat) (acc : Array Nat), ((List.replicate k l.toArray).foldl (· ++ ·) acc).toList = acc.toList ++ (List.replicate k l).flatten
  | 0, acc => by simp
  | k + 1, acc => by
    rw [List.replicate_succ, List.foldl_cons, foldl_app l k, List.replicate_succ, List.flatten_cons, Array.toList_append, List.append_assoc]
theorem tl_mul (z : Str) {n : Int} (h0 : 0 ≤ n) : tl (Txt.mul z n) = (List.replicate n.toNat (tl z)).flatten := by
  unfold Txt.mul
  by_cases h : n < 1
  · rw [if_pos h, show n.toNat = 0 by omega]
    rfl
  · rw [if_neg h]
    by_cases h2 : (n == 1 || z.length == 0) = true
    · rw [if_pos h2]
      rcases Bool.or_eq_true _ _ ▸ h2 with e | e
      · rw [beq_iff_eq.mp e]
        show tl z = (List.replicate 1 (tl z)).flatten
        simp
      · have h3 : tl z = [] := List.length_eq_zero_iff.mp (by rw [← len_tl]; exact beq_iff_eq.mp e)
        rw [h3]
        simp
    · rw [if_neg h2]
      have e := foldl_app (tl z) n.toNat #[]
      rw [show (tl z).toArray = z.cps from Array.toArray_toList] at e
      exact e.trans (List.nil_append _)
theorem op_repS {X : Cx} : OpR X (binaryOp .Mult) rRepS := by
  intro pins s σ H x y v u Q I rx ry h
  obtain ⟨z, n, rfl, rfl, h0, h1, hz, q⟩ := h
  obtain ⟨t, rfl⟩ := rx
  obtain ⟨t', rfl⟩ := ry
  refine SB.mul (mulOk h0 h1 hz) fun t2 k => ⟨.str _, H, I.tok _, ⟨_, rfl⟩, q _ ?_ fun c hc => ?_⟩
  · have hk : ∀ k : Nat, (List.replicate k (tl z)).flatten.length = k * z.length := by
      intro k
      induction k with
      | zero => simp
      | succ k ih => rw [List.replicate_succ, List.flatten_cons, List.length_append, ih, ← len_tl, Nat.succ_mul, Nat.add_comm]
    rw [len_tl, tl_mul z h0, hk, Int.natCast_mul, Int.toNat_of_nonneg h0, Int.mul_comm]
  · rw [tl_mul z h0, List.mem_flatten] at hc
    obtain ⟨l, hl, hc⟩ := hc
    rw [(List.mem_replicate.mp hl).2] at hc
    exact hc
/-! ### slices of texts -/
theorem cut_from (z : Str) (a : Nat) : tl (cutS z (some (a : Int)) none) = (tl z).drop a := by
  show ((z.cps.toList.drop (HT.sIx z.length 0 (some (a : Int)))).take (HT.sIx z.length z.length none - HT.sIx z.length 0 (some (a : Int)))) = _
  rw [HT.sIx_none, HT.sIx_nat, len_tl]
  by_cases h : a ≤ (tl z).length
  · rw [Nat.min_eq_left h]
    exact List.take_of_length_le (by rw [List.length_drop]; exact Nat.le_refl _)
  · rw [List.drop_eq_nil_of_le (show z.cps.toList.length ≤ min a (tl z).length by show (tl z).length ≤ _; omega), List.drop_eq_nil_of_le (show (tl z).length ≤ a by omega)]
    exact List.take_nil
theorem cut_mid (z : Str) (a b : Nat) : tl (cutS z (some (a : Int)) (some (b : Int))) = ((tl z).drop a).take (b - a) := by
  show ((z.cps.toList.drop (HT.sIx z.length 0 (some (a : Int)))).take (HT.sIx z.length z.length (some (b : Int)) - HT.sIx z.length 0 (some (a : Int)))) = _
  rw [HT.sIx_nat, HT.sIx_nat, len_tl]
  by_cases h : a ≤ (tl z).length
  · rw [Nat.min_eq_left h, List.take_eq_take_iff]
    show min (min b (tl z).length - a) (List.drop a (tl z)).length = min (b - a) (List.drop a (tl z)).length
    rw [List.length_drop]
    omega
  · rw [List.drop_eq_nil_of_le (show z.cps.toList.length ≤ min a (tl z).length by show (tl z).length ≤ _; omega), List.drop_eq_nil_of_le (show (tl z).length ≤ a by omega), List.take_nil, List.take_nil]
theorem cut_toN (z : Str) (b : Nat) : tl (cutS z none (some (b : Int))) = (tl z).take b := by
  rw [cut_to z (by omega), Int.toNat_natCast]
/-! ### counting one sign -/
theorem cnt_count (c : Nat) : ∀ l : List Nat, cnt c l = (l.count c : Int)
  | [] => rfl
  | n :: r => by
    rw [cnt_cons, cnt_count c r, List.count_cons]
    by_cases h : n = c
    · rw [if_pos h, h, beq_self_eq_true, if_pos rfl]
      omega
    · rw [if_neg h, beq_eq_false_iff_ne.mpr h, if_neg Bool.false_ne_true]
      omega
theorem count_one (z : Str) (c : Nat) : Txt.count z ⟨#[c]⟩ = ((tl z).count c : Int) := (count_cnt z c).trans (cnt_count c _)
/-! ### numbers of worths -/
theorem takeWhile_pre {p : Nat → Bool} {pre rest : List Nat} (h : ∀ c ∈ pre, p c = true) (hr : rest = [] ∨ ∃ c r, rest = c :: r ∧ p c = false) : (pre ++ rest).takeWhile p = pre ∧ (pre ++ rest).dropWhile p = rest := by
  induction pre with
  | nil =>
    rcases hr with e | ⟨c, r, e, hc⟩
    · subst e; exact ⟨rfl, rfl⟩
    · subst e
      rw [List.nil_append, List.takeWhile_cons_of_neg (by rw [hc]; exact Bool.false_ne_true), List.dropWhile_cons_of_neg (by rw [hc]; exact Bool.false_ne_true)]
      exact ⟨rfl, rfl⟩
  | cons d r ih =>
    have hd := h d List.mem_cons_self
    rw [List.cons_append, List.takeWhile_cons_of_pos hd, List.dropWhile_cons_of_pos hd]
    obtain ⟨e1, e2⟩ := ih fun c hc => h c (List.mem_cons_of_mem _ hc)
    rw [e1, e2]
    exact ⟨rfl, rfl⟩
def aheadL (l some : List Nat) : List Nat := l.takeWhile fun c => decide (c ∈ some)
def spAhead : Sp := fun vs H Q _ => ∃ w z : Str, vs = [.str w, .str z] ∧ w.length ≤ 100000 ∧ Q (.int ((aheadL (tl w) (tl z)).length : Int)) H
def spNumberOf : Sp := fun vs H Q _ => ∃ w : Str, vs = [.str w] ∧ w.length ≤ 640 ∧ Q (.int (numS w)) H
def spIsNumber : Sp := fun vs H Q _ => ∃ w : Str, vs = [.str w] ∧ w.length ≤ 100000 ∧ Q (.bl (isNumS w)) H
def spNumberText : Sp := fun vs H Q _ => ∃ n : Int, vs = [.int n] ∧ n.natAbs.log2 < 1920 ∧ Q (.str (intS n)) H
theorem ahead_marks (l : List Nat) : aheadL l (tl (Str.ofString "+-")) = marksOf l := by
  unfold aheadL marksOf
  refine congrArg (fun p => List.takeWhile p l) (funext fun c => ?_)
  rw [show tl (Str.ofString "+-") = [43, 45] by decide +kernel]
  unfold isMark
  simp [List.mem_cons, beq_iff_eq, Bool.decide_or, decide_eq_decide]
  rw [Bool.beq_eq_decide_eq, Bool.beq_eq_decide_eq]
theorem ahead_figs (l : List Nat) : aheadL l (tl (Str.ofString "0123456789")) = l.takeWhile isFig := by
  unfold aheadL
  refine congrArg (fun p => List.takeWhile p l) (funext fun c => ?_)
  rw [show tl (Str.ofString "0123456789") = [48, 49, 50, 51, 52, 53, 54, 55, 56, 57] by decide +kernel]
  unfold isFig
  rw [← Bool.decide_and]
  refine decide_eq_decide.mpr ?_
  simp only [List.mem_cons, List.not_mem_nil, or_false]
  omega
end Sk

namespace Sk
open PySem PySem.Spec PyProof.Rows L2
open PySem.NumText (AllDigits digitsVal digitsVal_snoc)
theorem digitsVal_lt : ∀ (n : Nat) (l : List Nat), l.length = n → AllDigits l → digitsVal l < 10 ^ n := by
  intro n
  induction n with
  | zero =>
    intro l h _
    rw [List.length_eq_zero_iff.mp h]
    decide
  | succ n ih =>
    intro l h hd
    obtain ⟨r, c, rfl⟩ : ∃ r c, l = r ++ [c] := ⟨l.dropLast, l.getLast (by intro z; rw [z] at h; cases h), (List.dropLast_concat_getLast _).symm⟩
    rw [digitsVal_snoc]
    have h1 := ih r (by rw [List.length_append, List.length_singleton] at h; omega) fun d hd' => hd d (List.mem_append_left _ hd')
    have h2 := hd c (List.mem_append_right _ (List.mem_singleton.mpr rfl))
    rw [Nat.pow_succ]
    omega
theorem val_bits {l : List Nat} (h : AllDigits l) (hl : l.length ≤ 640) : ((digitsVal l : Nat) : Int).natAbs < 2 ^ 2560 := by
  rw [Int.natAbs_natCast]
  refine Nat.lt_of_lt_of_le (digitsVal_lt _ l rfl h) ?_
  refine Nat.le_trans (Nat.pow_le_pow_left (by decide : 10 ≤ 2 ^ 4) _) ?_
  rw [← Nat.pow_mul]
  exact Nat.pow_le_pow_right (by decide) (by omega)
theorem val_mul {l : List Nat} (h : AllDigits l) (hl : l.length ≤ 640) : CMulW ((digitsVal l : Nat) : Int) 10 := wide_mul (b := 4) (val_bits h hl) (by decide) (by decide) (by decide) (by decide)
theorem find_fig {c : Nat} (h : 48 ≤ c ∧ c ≤ 57) : Txt.find (Str.ofString "0123456789") ⟨#[c]⟩ = ((c - 48 : Nat) : Int) := by
  have key : ∀ k < 10, Txt.find (Str.ofString "0123456789") ⟨#[48 + k]⟩ = ((48 + k - 48 : Nat) : Int) := by decide +kernel
  have := key (c - 48) (by omega)
  rw [show 48 + (c - 48) = c by omega] at this
  exact this
theorem fig_mem {c : Nat} : decide (c ∈ tl (Str.ofString "0123456789")) = isFig c := by
  rw [show tl (Str.ofString "0123456789") = [48, 49, 50, 51, 52, 53, 54, 55, 56, 57] by decide +kernel]
  unfold isFig
  rw [← Bool.decide_and]
  refine decide_eq_decide.mpr ?_
  simp only [List.mem_cons, List.not_mem_nil, or_false]
  omega
theorem mark_mem {c : Nat} : decide (c ∈ tl (Str.ofString "+-")) = isMark c := by
  rw [show tl (Str.ofString "+-") = [43, 45] by decide +kernel, Bool.eq_iff_iff, decide_eq_true_eq, isMark_iff]
  simp only [List.mem_cons, List.not_mem_nil, or_false]
theorem eq_sign {c d : Nat} : decide (V.str ⟨#[c]⟩ = V.str ⟨#[d]⟩) = (c == d) := by
  rw [Bool.eq_iff_iff, decide_eq_true_eq, beq_iff_eq]
  exact ⟨fun z => by
    have := congrArg tl (V.str.inj z)
    exact (List.cons.inj this).1, fun z => by rw [z]⟩
def spLawNumber : Sp := fun vs H Q _ => ∃ x : Str, vs = [.str x] ∧ x.length ≤ 640 ∧ ∀ H', Same H H' → Q (.int (numS x)) H'
def spWritten : Sp := fun vs H Q _ => ∃ n : Int, vs = [.int n] ∧ (intL n).length ≤ 10000 ∧ ∀ H', Same H H' → Q (.str (intS n)) H'
theorem item_fig {k : Int} (h0 : 0 ≤ k) (h1 : k < 10) : atI (tl (Str.ofString "0123456789")) k = some (48 + k.toNat) := by
  have key : ∀ j : Nat, j < 10 → atI (tl (Str.ofString "0123456789")) (j : Int) = some (48 + j) := by decide +kernel
  have := key k.toNat (by omega)
  rw [Int.toNat_of_nonneg h0] at this
  exact this
theorem intL_abs (n : Int) : intL n = if n < 0 then 45 :: decL n.natAbs else decL n.natAbs := rfl
theorem intL_bits {n : Int} (h : (intL n).length ≤ 640) : n.natAbs < 2 ^ 2560 := by
  have h1 : (decL n.natAbs).length ≤ 640 := by
    unfold intL at h
    split at h
    · rw [List.length_cons] at h; omega
    · exact h
  have h2 := val_bits (decL_digits n.natAbs) h1
  rw [decL_val, Int.natAbs_natCast] at h2
  exact h2
theorem digitsVal_len : ∀ (l : List Nat), AllDigits l → (decL (digitsVal l)).length ≤ l.length + 1 := by
  have key : ∀ (m n : Nat), n < 10 ^ m → (decL n).length ≤ m + 1 := by
    intro m
    induction m with
    | zero => intro n h; rw [show n = 0 by omega, decL_lt (by decide)]; decide
    | succ m ih =>
      intro n h
      by_cases hn : n < 10
      · rw [decL_lt hn]; show 1 ≤ _; omega
      · rw [decL_ge (by omega), List.length_append, List.length_singleton]
        have := ih (n / 10) (by rw [Nat.pow_succ] at h; omega)
        omega
  exact fun l h => key _ _ (digitsVal_lt _ l rfl h)
theorem numS_len {x : Str} : (intL (numS x)).length ≤ x.length + 2 := by
  have hd : AllDigits (figsOf (tl x)) := fun c hc => isFig_iff.mp (mem_takeWhile hc)
  have h1 := digitsVal_len _ hd
  have h2 : (figsOf (tl x)).length ≤ x.length := by
    rw [len_tl]
    exact Nat.le_trans ((List.takeWhile_sublist _).length_le) ((List.dropWhile_sublist _).length_le)
  have h3 : (numS x).natAbs = digitsVal (figsOf (tl x)) := by
    unfold numS numL
    split <;> omega
  unfold intL
  rw [h3]
  split
  · rw [List.length_cons]; omega
  · omega
end Sk

namespace Sk
open PySem PySem.Spec PyProof.Rows L2
open PySem.W (KeepsBut AllAlike Sortable KeyedOut dataKind dataLe EachIs SortsAt copyHeap)
/-! ### sorted(xs, key=f), f a def of one's own that makes new things alone -/
/-- keys, told by the layer -/
abbrev KeyV (K : PySem.W.Frag) (H : Hp) : List V → List PyData → Prop := DpAll K H
theorem dpAll_snoc {K : PySem.W.Frag} {H : Hp} : ∀ {vs : List V} {ds : List PyData} {v : V} {d : PyData}, DpAll K H vs ds → Dp K H v d → DpAll K H (vs ++ [v]) (ds ++ [d])
  | _, _, _, _, .nil, h => .cons h .nil
  | _, _, _, _, .cons a b, h => .cons a (dpAll_snoc b h)
mutual
theorem dp_same {K : PySem.W.Frag} {H H' : Hp} (s : Same H H') : ∀ {v : V} {d : PyData}, Dp K H v d → Dp K H' v d
  | _, _, .non => .non
  | _, _, .bl b => .bl b
  | _, _, .int i => .int i
  | _, _, .str x => .str x
  | _, _, .lst h g => .lst (s.seq h) (dpAll_same s g)
  | _, _, .tup h g => .tup (by
      rcases h with (h | ⟨o, h⟩) | h
      · exact .inl (.inl (s _ _ h))
      · exact .inl (.inr ⟨o, s _ _ h⟩)
      · exact .inr h) (dpAll_same s g)
theorem dpAll_same {K : PySem.W.Frag} {H H' : Hp} (s : Same H H') : ∀ {vs : List V} {ds : List PyData}, DpAll K H vs ds → DpAll K H' vs ds
  | _, _, .nil => .nil
  | _, _, .cons h g => .cons (dp_same s h) (dpAll_same s g)
end
def rSortKey (K : PySem.W.Frag) (f : Addr) (sp : Sp) : List V → List V → Hp → VK → Prop := fun vs zs H Q => ∃ (a : Addr) (xs : List V) (key : V → PyData), vs = [.ref a] ∧ zs = [.ref f] ∧ SqL K H a xs ∧ xs.length < 100000 ∧
  AllAlike (xs.map key) ∧ Sortable (xs.map key) ∧ (∀ x ∈ xs, (key x).depth ≤ 40) ∧
  (∀ x ∈ xs, ∀ H1, Same H H1 → ∀ R : VK, (∀ v H2, Same H1 H2 → Dp K H2 v (key x) → R v H2) → sp [x] H1 R E0) ∧
  ∀ p H2, H p = none → Same H H2 → H2 p = some (.lst (xs.mergeSort (dataLe false key))) → Q (.ref p) H2
section
variable {X : Cx}
theorem eachReads {pins : List (Addr × Obj)} {σ : L2.St} {H : Hp} {s : Shared} (I : Inv X pins σ H s) : ∀ {ks : List V} {ds : List PyData} {us : List Value}, DpAll X.K H ks ds → Vals ks us → EachIs (fun v k => ∃ as, Reads s.heap v k as) us ds
  | _, _, _, .nil, .nil => .nil
  | _, _, _, .cons h g, .cons r t => .cons (Dp.reads I _ _ _ h r) (eachReads I g t)
theorem eachVals : ∀ {xs : List V} {us : List Value}, Vals xs us → EachIs (fun u x => RelV x u) us xs
  | _, _, .nil => .nil
  | _, _, .cons r t => .cons r (eachVals t)
theorem valsEach : ∀ {xs : List V} {us : List Value}, EachIs (fun u x => RelV x u) us xs → Vals xs us
  | _, _, .nil => .nil
  | _, _, .cons r t => .cons r (valsEach t)
end
end Sk
namespace Sk
open PySem PySem.Spec PyProof.Rows L2
open PySem.W (KeepsBut AllAlike Sortable KeyedOut dataKind dataLe EachIs SortsAt copyHeap copyHeap_at copyHeap_old keyH_end hideAll)
section
variable {X : Cx} {k : Nat} {f : Addr} {fd : FuncData} {xn : Str} {sp : Sp}
/-- what stands between two calls of the key -/
structure Mid (X : Cx) (pins : List (Addr × Obj)) (σ : L2.St) (H : Hp) (D kS : Addr) (e1 : Nat) (ds : List PyData) (s' : Shared) : Prop where
  ex : ∃ (Hi : Hp) (kA : Array Value) (e : Nat) (ks : List V), Inv X pins σ Hi s' ∧ Same H Hi ∧ Hi D = none ∧ Hi kS = none ∧
    s'.heap.get? kS = some (seqObj "list" kA e) ∧ s'.heap.get? D = some (seqObj "list" #[] e1) ∧ Vals ks kA.toList ∧ DpAll X.K Hi ks ds
theorem dpAll_len {K : PySem.W.Frag} {H : Hp} : ∀ {vs : List V} {ds : List PyData}, DpAll K H vs ds → vs.length = ds.length
  | _, _, .nil => rfl
  | _, _, .cons _ g => by rw [List.length_cons, List.length_cons, dpAll_len g]
theorem mid_turn (F : FnOk X.prog X.w X.K X.mg X.base CX0 k f fd [xn] sp) (hr : Room (k + 2) X.A) (hb : Binds X.K fd [xn] []) {pins : List (Addr × Obj)} {σ : L2.St} {H : Hp} {D kS : Addr} {e1 : Nat} {ds : List PyData} {d : PyData} {s' : Shared} {x : V} {u : Value} {E : Value → Shared → Prop}
    {next : Value → Sem (ForInStep PUnit)}
    (fD : FpOk X pins H D) (fS : FpOk X pins H kS) (hne : kS ≠ D) (hsz : ds.length < 100000)
    (m : Mid X pins σ H D kS e1 ds s') (rx : RelV x u) (hsp : ∀ H1, Same H H1 → ∀ R : VK, (∀ v H2, Same H1 H2 → Dp X.K H2 v d → R v H2) → sp [x] H1 R E0) :
    wpAny (model X.prog X.w) X.A.in1.in1 (do
      match ← (call (.ref f) [u]).attempt with
      | .ok k => Builtin.List.listUpdate (.ref kS) (·.push k); pure (ForInStep.yield PUnit.unit)
      | .error e => next e) (fun r s'' => r = .yield PUnit.unit ∧ Mid X pins σ H D kS e1 (ds ++ [d]) s'') E s' := by
  obtain ⟨Hi, kA, e, ks, I, sm, nD, nS, gS, gD, rk, dk⟩ := m.ex
  have stk : ∀ {b : Addr}, FpOk X pins H b → b ∉ frs X.stack := fun {b} fb hb' => by
    rcases List.mem_cons.mp (I.stkSub b hb') with z | z
    · exact fb.2.1 z
    · exact fb.2.2.1 z
  refine wpAny_bind (wpAny_attempt (wpAny_call (codeAny_mono (F.run X.A.in1.in1 X.stack s' Hi ⟨[u], []⟩ [u] [x] (fun v H2 => Same Hi H2 ∧ Dp X.K H2 v d) E0 hr.in1.in1 I.env0.in1.in1 (hb s' [u] I.kIn rfl) (.cons rx .nil) (hsp Hi sm _ fun v H2 s2 h2 => ⟨s2, h2⟩)) fun r s2 hq => ?_)))
  cases r with
  | error z => exact hq.elim
  | ok fl =>
    cases fl with
    | next => exact hq.elim
    | brk => exact hq.elim
    | cont => exact hq.elim
    | ret y =>
      obtain ⟨v0, H0', os, bare, un, hok, rv0, q0⟩ := hq
      have hq' : CE X.stack X.prog X.w Hi s' (fun v H2 => (Same Hi H2 ∧ Dp X.K H2 v d) ∧ H2 kS = none ∧ H2 D = none) y s2 := ⟨v0, H0', os, bare, un, hok, rv0, q0, un.free kS _ gS nS List.not_mem_nil, un.free D _ gD nD List.not_mem_nil⟩
      have gS2 := un.keep kS _ gS nS (stk fS) List.not_mem_nil
      have gD2 := un.keep D _ gD nD (stk fD) List.not_mem_nil
      obtain ⟨v, H2, I2, rv, ⟨s2', dv⟩, n2S, n2D⟩ := I.after hq'
      have hlen : kA.size ≤ sizeLine := by
        have h1 : kA.toList.length = kA.size := Array.length_toList
        have h2 := dpAll_len dk
        have h3 : ks.length = kA.toList.length := Vals.length rk
        exact Evl.sz_of (by omega)
      refine wpAny_bind (listUpdate_at gS2 rfl ?_ hlen (by rw [Array.size_push]; omega))
      have sb := Heap.SameBut.update s2.heap kS (Obj.mapSeq (·.push y))
      obtain ⟨c2, hc2⟩ : ∃ c2, (s2.heap.update kS (Obj.mapSeq (·.push y))).get? kS = some (seqObj "list" (kA.push y) c2) := ⟨_, get?_update_seq gS2 (·.push y)⟩
      have fS2 : FpOk X pins H2 kS := ⟨n2S, fS.2⟩
      refine wpAny_pure ⟨rfl, ⟨H2, kA.push y, c2, ks ++ [v], ?_, sm.trans s2', n2D, n2S, hc2, (sb.2 D hne.symm).trans gD2, ?_, dpAll_snoc (dpAll_same s2' dk) dv⟩⟩
      · exact I2.turned (t' := s2.toks) (fun b o hb e => (sb.2 b hb).trans e) n2S fS.2.1 fS.2.2.2.1 fS.2.2.2.2.1 fS.2.2.2.2.2
      · rw [Array.toList_push]
        exact rk.append (.cons rv .nil)
/-- sorted(xs, key=f) -/
theorem cr_sortKey (F : FnOk X.prog X.w X.K X.mg X.base CX0 k f fd [xn] sp) (hr : Room (k + 2) X.A) (hb : Binds X.K fd [xn] []) : CallRK X (.builtin "sorted") [Str.ofString "key"] (rSortKey X.K f sp) := by
  intro pins s σ H vs zs us ws Q I r rz h
  obtain ⟨a, xs, key, rfl, rfl, hs, hlen, hal, hsk, hdep, hsp, q⟩ := h
  obtain rfl := Vals.ref1 r
  obtain ⟨w1, rfl, e1⟩ := vals1 rz
  obtain rfl : w1 = Value.ref f := e1
  obtain ⟨its, rv, hl, hzL⟩ := I.list hs
  have hil : its.length = xs.length := (Vals.length rv).symm
  have hD : s.heap.objs.size ≤ s.heap.objs.size + 1 := Nat.le_succ _
  have nD : H (s.heap.objs.size + 1) = none := I.hok.fresh hD
  have fD : FpOk X pins H (s.heap.objs.size + 1) := I.fpOk hD nD
  refine PySem.W.sorted_of_sort hl.isList (by rw [hil]; exact hzL) (ksk_s1 _ _) (fun x => ksk_l1 _ _) fun E' => ?_
  show wpAny _ _ (ksk_tree (s.heap.objs.size + 1) (.ref f) false) _ E' _
  have ho := copyHeap_at s.heap its
  have hsi : its.toArray.size ≤ sizeLine := by rw [List.size_toArray, hil]; exact hzL
  have old1 : ∀ b o, s.heap.get? b = some o → (copyHeap s.heap its).get? b = some o := fun b o e => copyHeap_old e
  have ltD : ∀ b o, s.heap.get? b = some o → b ≠ s.heap.objs.size + 1 := fun b o e => by
    have := Heap.lt_size e
    exact Nat.ne_of_lt (Nat.lt_succ_of_lt this)
  generalize hDd : s.heap.objs.size + 1 = D at ho nD fD hD ltD ⊢
  generalize copyHeap s.heap its = g1 at ho old1 ⊢
  unfold ksk_tree
  refine wpAny_bind (listItems_at ho rfl ?_)
  refine wpAny_bind (listUpdate_at ho rfl ?_ hsi (Nat.zero_le _))
  obtain ⟨c1, hc1⟩ : ∃ c1, (g1.update D (Obj.mapSeq fun _ => (#[] : Array Value))).get? D = some (seqObj "list" #[] c1) := ⟨_, get?_update_seq ho fun _ => #[]⟩
  have sb1 := Heap.SameBut.update g1 D (Obj.mapSeq fun _ => (#[] : Array Value))
  refine wpAny_bind (seqEpoch_at hc1 rfl ?_)
  refine wpAny_bind (wpAny_newTuple ?_ (by rw [Array.length_toList]; exact hsi))
  refine wpAny_bind (wpAny_newList ?_ (Nat.zero_le _))
  refine wpAny_holding ?_
  dsimp only
  have old2 : ∀ b o, s.heap.get? b = some o → (g1.update D (Obj.mapSeq fun _ => (#[] : Array Value))).get? b = some o := fun b o e => (sb1.2 b (ltD b o e)).trans (old1 b o e)
  generalize g1.update D (Obj.mapSeq fun _ => (#[] : Array Value)) = g2 at hc1 old2 ⊢
  have old3 : ∀ b o, s.heap.get? b = some o → (g2.push { cls := .type "tuple", data := .seq its.toArray.toList.toArray }).get? b = some o := fun b o e => Heap.get?_push_of_some _ (old2 b o e)
  have hc3 : (g2.push { cls := .type "tuple", data := .seq its.toArray.toList.toArray }).get? D = some (seqObj "list" #[] c1) := Heap.get?_push_of_some _ hc1
  generalize g2.push { cls := .type "tuple", data := .seq its.toArray.toList.toArray } = g3 at hc3 old3 ⊢
  have gS : (g3.push { cls := .type "list", data := .seq ([] : List Value).toArray }).get? g3.objs.size = some (seqObj "list" #[] 0) := Heap.get?_push_size _ rfl
  have gD : (g3.push { cls := .type "list", data := .seq ([] : List Value).toArray }).get? D = some (seqObj "list" #[] c1) := Heap.get?_push_of_some _ hc3
  have hne : g3.objs.size ≠ D := Nat.ne_of_gt (Heap.lt_size hc3)
  have hS : s.heap.objs.size ≤ g3.objs.size := Nat.le_trans hD (Nat.le_of_lt (Heap.lt_size hc3))
  have nS : H g3.objs.size = none := I.hok.fresh hS
  have fS : FpOk X pins H g3.objs.size := I.fpOk hS nS
  have I4 : Inv X pins σ H { s with heap := g3.push { cls := .type "list", data := .seq ([] : List Value).toArray } } := I.kept (t' := s.toks) fun b o e => Heap.get?_push_of_some _ (old3 b o e)
  generalize g3.objs.size = kS at gS hne nS fS ⊢
  generalize g3.push { cls := .type "list", data := .seq ([] : List Value).toArray } = g4 at gS gD I4 ⊢
  unfold ksk_rest
  refine wpAny_bind (wpAny_rule ?_)
  rw [List.forIn_toArray]
  refine wpAny_bind (ksk_fold (fun i s' => Mid X pins σ H D kS c1 ((xs.take i).map key) s') its 0 _ ⟨H, #[], 0, [], I4, .refl H, nD, nS, gS, gD, .nil, .nil⟩ ?_ ?_)
  · intro j u s' hu m
    simp only [Nat.zero_add] at m ⊢
    have hj : j < xs.length := by rw [← hil]; exact (List.getElem?_eq_some_iff.mp hu).1
    have hx : xs[j]? = some xs[j] := List.getElem?_eq_getElem hj
    have rx : RelV xs[j] u := by
      obtain ⟨u', hu', r'⟩ := Vals.get rv hx
      rw [hu] at hu'
      cases hu'
      exact r'
    have et : (xs.take (j + 1)).map key = (xs.take j).map key ++ [key xs[j]] := by rw [List.take_add_one, hx, List.map_append]; rfl
    rw [et]
    exact mid_turn F hr hb fD fS hne (by rw [List.length_map, List.length_take]; omega) m rx (hsp _ (List.getElem_mem hj))
  · intro s' m
    rw [Nat.zero_add, hil, List.take_length] at m
    obtain ⟨Hi, kA, e, ks, I5, sm, nD5, nS5, gS5, gD5, rk, dk⟩ := m.ex
    refine wpAny_bind (listItems_at gS5 rfl ?_)
    have ek := eachReads I5 dk rk
    have hks : kA.size = its.length := by
      have h1 : kA.toList.length = kA.size := Array.length_toList
      have h2 := dpAll_len dk
      have h3 : ks.length = kA.toList.length := Vals.length rk
      rw [List.length_map] at h2
      omega
    have hu : ∀ d, d ∈ xs.map key → X.A.in1.in1.units + d.depth < cLine := fun d hd => by
      obtain ⟨x, hx, rfl⟩ := List.mem_map.mp hd
      have h1 := hdep x hx
      have h2 := hr.in1.in1.units
      omega
    have old5 : ∀ b o, (hideAll s'.heap [kS]).get? b = some o → s'.heap.get? b = some o := fun b o e => PySem.W.of_hideAll _ e
    refine keyH_end (h₁ := hideAll s'.heap [kS]) (fun b o _ e => old5 b o e) (PySem.W.hideAll_none _ (List.mem_singleton.mpr rfl)) gS5 gD5 hne (SortsAt.data ek hal hsk hu) hks (by rw [hil]; exact hzL) fun h' tk c kp gD6 => ⟨rfl, ?_⟩
    have eo := PySem.W.keyedOut_each key (⟨s'.heap, kA.toList, hal, rfl, ek⟩ : KeyedOut false (xs.map key) its _) (eachVals rv)
    have fD5 : FpOk X pins Hi D := ⟨nD5, fD.2⟩
    have fS5 : FpOk X pins Hi kS := ⟨nS5, fS.2⟩
    have I6 := I5.turnedL (h' := h') (t' := tk) (ch := [D, kS]) (fun b o hb e => kp b o (fun z => hb (by rw [z]; exact List.mem_cons_self)) (PySem.W.hideAll_get _ e fun z => hb (List.mem_cons_of_mem _ z))) fun b hb => by
      rcases List.mem_cons.mp hb with z | z
      · rw [z]; exact fD5
      · rw [List.mem_singleton.mp z]; exact fS5
    have hml : (xs.mergeSort (dataLe false key)).length = xs.length := List.length_mergeSort _
    have I7 := I6.take (h' := h') (t' := tk) (o := .lst (xs.mergeSort (dataLe false key))) (fun b o _ e => e) fD5 ⟨by rw [hml]; exact hzL, _, c, valsEach eo, gD6⟩
    exact ⟨.ref D, _, I7, rfl, q D _ nD (same_mut sm nD) upd_same⟩
end
end Sk

namespace Sk
open PySem PySem.Spec PyProof.Rows L2
open PySem.W (Datum DatumOrd Tup T3 dataLt dataLe alike AllAlike Sortable)
/-! ### a call with keywords alone -/
def pick {α : Type} (d : α) (ix : List (Bool × Nat)) (us ws : List α) : List α := ix.map fun p => if p.1 then ws.getD p.2 d else us.getD p.2 d
theorem vals_getD : ∀ {vs : List V} {us : List Value} (i : Nat), Vals vs us → RelV (vs.getD i .non) (us.getD i .none)
  | _, _, _, .nil => rfl
  | _, _, 0, .cons r _ => r
  | _, _, i + 1, .cons _ t => vals_getD i t
theorem pick_rel {ix : List (Bool × Nat)} {vs zs : List V} {us ws : List Value} (r : Vals vs us) (t : Vals zs ws) : Vals (pick .non ix vs zs) (pick .none ix us ws) := by
  unfold pick
  induction ix with
  | nil => exact .nil
  | cons p l ih =>
    obtain ⟨b, i⟩ := p
    refine .cons ?_ ih
    cases b with
    | true => exact vals_getD i t
    | false => exact vals_getD i r
theorem kbn_of {K : PySem.W.Frag} {x qual : Str} {st : Stmt} {f : Addr} {fd : FuncData} (F : Fun K x qual st f fd) (ps ks : List Str) (n : Nat) (ix : List (Bool × Nat))
    (h : ∀ (kV doc pm : Value) (an : Option Addr) (cdv ct : Value) (us ws : List Value), us.length = n → ws.length = ks.length → bindArgs (PySem.W.fnOf x qual (defArgs st) (defBody st) (defScope st) .none kV doc pm an cdv ct) ⟨us, ks.zip ws⟩ = pure (ps.zip (pick .none ix us ws))) :
    KBn K fd ps n ks (pick .none ix) (pick .non ix) := by
  obtain ⟨oc, od, kV, doc, pm, an, cdv, ct, osl, rfl, lk, hcd⟩ := F.ex
  exact ⟨fun s us ws _ l1 l2 => .of_eq (h kV doc pm an cdv ct us ws l1 l2), fun r t => pick_rel r t⟩
section
variable {X : Cx} {k n : Nat} {f : Addr} {fd : FuncData} {ps ks : List Str} {sp : Sp} {E : XK} {CX : CXT} {x : Str} {p pos : Pos} {kws : List Keyword} {tk : TA} {g : List Value → List Value → List Value} {gV : List V → List V → List V}
theorem pe_callN0 (F : FnOk X.prog X.w X.K X.mg X.base CX k f fd ps sp) (hr : Room k X.A) (hg : Gl X x) (hm : X.mg x = some (.ref f)) (hk : PySem.W.keepIn X.K (.ref f) = true) (hb : KBn X.K fd ps 0 ks g gV) (hx : Passes CX X E)
    (hkw : PK X kws tk) (hall : (backToKw pos (keywordEach kws X.env)).all (·.1.isSome) = true := by rfl) (hks : (backToKw pos (keywordEach kws X.env)).filterMap (·.1) = ks := by rfl)
    (hdb : (x == ("__debug__" : Str)) = false := by decide)
    (hpl : ((backTo pos (starEach [] X.env)).any (·.1) || (backToKw pos (keywordEach kws X.env)).any (·.1.isNone)) = false := by rfl) :
    PE X (.Call (.Name x p) [] kws pos) (tCallN 0 ks.length sp gV E tNil tk) := by
  refine ⟨fun pins s σ H Q I h => ?_⟩
  refine wpAny_Call_Name_kw (ld_glob I hg hm ?_ hdb)
  refine PySem.W.callWith_KW0 (h₀ := X.base) I.ok.mod.kin hk hall ?_ hpl
  refine thn (hkw.run pos pins s σ H _ I h) fun ws s2 ⟨zs, H2, I2, rz, l1, l2, q2⟩ => ⟨I2.kIn, ?_⟩
  rw [hks]
  exact run_fnN F hr hb hx I2 .nil rz l1 l2 q2
end
/-! ### < of data -/
def rLtP (K : PySem.W.Frag) : R2 := fun x y H Q => ∃ d e, Dp K H x d ∧ Dp K H y e ∧ alike d e = true ∧ d ≠ .none ∧ d.depth ≤ 64 ∧ Q (.bl (dataLt d e)) H
section
variable {X : Cx}
theorem k_ltP (K : PySem.W.Frag) (hu : X.A.units + 64 < cLine) (e : X.K = K := by rfl) : OpR X (compareOp .Lt) (rLtP K) := by
  subst e
  intro pins s σ H x y v u Q I rx ry h
  obtain ⟨d, e, hd, he, sd, sn, dl, q⟩ := h
  obtain ⟨as, r1⟩ := Dp.reads I d x v hd rx
  obtain ⟨bs, r2⟩ := Dp.reads I e y u he ry
  exact PySem.W.lt_data r1 r2 sd sn (by omega) ⟨.bl _, H, I, rfl, q⟩
end
def rGtP (K : PySem.W.Frag) : R2 := fun x y H Q => ∃ d e, Dp K H x d ∧ Dp K H y e ∧ alike d e = true ∧ d ≠ .none ∧ d.depth ≤ 64 ∧ Q (.bl (dataLt e d)) H
theorem k_gtP {X : Cx} (K : PySem.W.Frag) (hu : X.A.units + 64 < cLine) (e : X.K = K := by rfl) : OpR X (compareOp .Gt) (rGtP K) := by
  subst e
  intro pins s σ H x y v u Q I rx ry h
  obtain ⟨d, e, hd, he, sd, sn, dl, q⟩ := h
  obtain ⟨as, r1⟩ := Dp.reads I d x v hd rx
  obtain ⟨bs, r2⟩ := Dp.reads I e y u he ry
  exact PySem.W.gt_data r1 r2 sd sn (by omega) ⟨.bl _, H, I, rfl, q⟩
theorem rd_gtP {α : Type} [DecidableEq α] [DatumOrd α] {K : PySem.W.Frag} {H : Hp} {v w : V} {x y : α} {Q : VK} (h1 : DV K H v x) (h2 : DV K H w y) (hd : Datum.depth α ≤ 64) (q : Q (.bl (DatumOrd.lt y x)) H) : rGtP K v w H Q :=
  ⟨_, _, h1, h2, DatumOrd.alike x y, DatumOrd.notNone x, Nat.le_trans (Datum.depth_le x) hd, by rw [DatumOrd.lt_eq]; exact q⟩
theorem rd_ltP {α : Type} [DecidableEq α] [DatumOrd α] {K : PySem.W.Frag} {H : Hp} {v w : V} {x y : α} {Q : VK} (h1 : DV K H v x) (h2 : DV K H w y) (hd : Datum.depth α ≤ 64) (q : Q (.bl (DatumOrd.lt x y)) H) : rLtP K v w H Q :=
  ⟨_, _, h1, h2, DatumOrd.alike x y, DatumOrd.notNone x, Nat.le_trans (Datum.depth_le x) hd, by rw [DatumOrd.lt_eq]; exact q⟩
/-! ### the rank of a key -/
abbrev Rank := T3 Int Int Str
def rankT (s : Str) : Rank := if isNumS s then ⟨0, numS s, Str.ofString ""⟩ else ⟨1, 0, s⟩
def ltK (a b : Str) : Bool := DatumOrd.lt (rankT a) (rankT b)
def leK (a b : Str) : Bool := !ltK b a
def sortK (ks : List Str) : List Str := ks.mergeSort leK
def keyOf : V → PyData
  | .str s => Datum.toD (rankT s)
  | _ => .none
theorem sortK_map (ks : List Str) : (ks.map V.str).mergeSort (dataLe false keyOf) = (sortK ks).map V.str := by
  unfold sortK
  refine (List.map_mergeSort (r := leK) (s := dataLe false keyOf) (f := V.str) fun a _ b _ => ?_).symm
  show (!ltK b a) = !dataLt (Datum.toD (rankT b)) (Datum.toD (rankT a))
  rw [DatumOrd.lt_eq]
  rfl
theorem alikeK (ks : List Str) : AllAlike ((ks.map V.str).map keyOf) := by
  intro d hd e he
  rw [List.map_map] at hd he
  obtain ⟨a, _, rfl⟩ := List.mem_map.mp hd
  obtain ⟨b, _, rfl⟩ := List.mem_map.mp he
  exact DatumOrd.alike (rankT a) (rankT b)
theorem sortableK (ks : List Str) : Sortable ((ks.map V.str).map keyOf) := by
  refine .inl fun d hd => ?_
  rw [List.map_map] at hd
  obtain ⟨a, _, rfl⟩ := List.mem_map.mp hd
  exact ⟨_, _, rfl⟩
def spRank (K : PySem.W.Frag) : Sp := fun vs H Q _ => ∃ w : Str, vs = [.str w] ∧ w.length ≤ 640 ∧ ∀ v H', Same H H' → DV K H' v (rankT w) → Q v H'
def spBefore : Sp := fun vs H Q _ => ∃ a b : Str, vs = [.str a, .str b] ∧ a.length ≤ 640 ∧ b.length ≤ 640 ∧ ∀ H', Same H H' → Q (.bl (ltK a b)) H'
def spInOrder (K : PySem.W.Frag) : Sp := fun vs H Q _ => ∃ (a : Addr) (ks : List Str), vs = [.ref a] ∧ SqL K H a (ks.map V.str) ∧ ks.length < 100000 ∧ (∀ k ∈ ks, k.length ≤ 640) ∧
  ∀ p H', H p = none → Same H H' → H' p = some (.lst ((sortK ks).map V.str)) → Q (.ref p) H'
theorem dv_rank {K : PySem.W.Frag} {H : Hp} {p : Addr} {x : Int} {y : Int} {s : Str} (h : H p = some (.tup [.int x, .int y, .str s])) : DV K H (.ref p) (⟨x, y, s⟩ : Rank) :=
  Dp.tup (xs := [.int x, .int y, .str s]) (.inl (.inl h)) (.cons (.int x) (.cons (.int y) (.cons (.str s) .nil)))
end Sk

namespace Sk
open PySem PySem.Spec PyProof.Rows L2
section
variable {K : PySem.W.Frag} {σ : L2.St}
/-- the step that all pure comprehensions share -/
theorem lc_step {te : TE} {tt : TT} {H1 H2 : Hp} {D : Addr} {acc : List V} {b : Bool} {y : V} {σ2 : L2.St} {Nx : Hp → Prop} (hD : H1 D = none) (s2 : Same H1 H2) (e2 : H2 D = some (.lst acc)) (hl : acc.length < 100000)
    (ht : ∀ R : Bool → Hp → Prop, (∀ H3, Same H2 H3 → R b H3) → tt σ2 H2 R) (he : b = true → ∀ H3, Same H2 H3 → ∀ R : VK, (∀ H4, Same H3 H4 → R y H4) → te σ2 H3 R)
    (hn : ∀ H4, Same H1 H4 → H4 D = some (.lst (if b = true then acc ++ [y] else acc)) → Nx H4) :
    tt σ2 H2 fun b H3 => if b = true then te σ2 H3 fun y H4 => ∃ acc, H4 D = some (.lst acc) ∧ acc.length < sizeLine ∧ Nx (upd H4 D (.lst (acc ++ [y]))) else Nx H3 := by
  refine ht _ fun H3 s3 => ?_
  have e3 := s3 _ _ e2
  cases b with
  | true =>
    refine iteT (he rfl H3 s3 _ fun H4 s4 => ?_)
    exact ⟨_, s4 _ _ e3, Evl.sz_lt hl, hn _ (same_mut ((s2.trans s3).trans s4) hD) upd_same⟩
  | false => exact iteF (hn _ (s2.trans s3) e3)
theorem flt_snoc {α β : Type} {p : α → Bool} {f : α → β} {xs : List α} {i : Nat} {x : α} (h : xs[i]? = some x) : ((xs.take (i + 1)).filter p).map f = if p x = true then ((xs.take i).filter p).map f ++ [f x] else ((xs.take i).filter p).map f := by
  rw [List.take_add_one, h, List.filter_append]
  show ((_ ++ List.filter p [x]).map f) = _
  cases hp : p x with
  | true => rw [List.filter_cons, hp, if_pos rfl, List.filter_nil, List.map_append, if_pos rfl]; rfl
  | false => rw [List.filter_cons, hp, if_neg Bool.false_ne_true, List.filter_nil, List.append_nil, if_neg Bool.false_ne_true]
theorem flt_len {α β : Type} {p : α → Bool} {f : α → β} {xs : List α} {i : Nat} {x : α} (h : xs[i]? = some x) (hn : xs.length ≤ 100000) : (((xs.take i).filter p).map f).length < 100000 := by
  have hi := (List.getElem?_eq_some_iff.mp h).1
  have := List.length_filter_le p (xs.take i)
  rw [List.length_take] at this
  rw [List.length_map]
  omega
/-- over the signs of a text -/
theorem lc_pure_str {te : TE} {tt : TT} {k : Nat} {H1 : Hp} {D : Addr} {x : Str} {Qd : Hp → Prop} (p : Nat → Bool) (f : Nat → V) (hn : x.length ≤ 100000) (hD : H1 D = none)
    (ht : ∀ c H2, c ∈ tl x → Same H1 H2 → ∀ R : Bool → Hp → Prop, (∀ H3, Same H2 H3 → R (p c) H3) → tt ((wipe σ [k]).set k (some (.str ⟨#[c]⟩))) H2 R)
    (he : ∀ c H2, c ∈ tl x → p c = true → Same H1 H2 → ∀ R : VK, (∀ H3, Same H2 H3 → R (f c) H3) → te ((wipe σ [k]).set k (some (.str ⟨#[c]⟩))) H2 R)
    (hd : ∀ H2, Same H1 H2 → H2 D = some (.lst (((tl x).filter p).map f)) → Qd H2) :
    ∃ W : Nat → Nat → Hp → Prop, (∃ m, W 0 m (upd H1 D (.lst []))) ∧ ∀ i m H, W i m H →
      ((Its x).stop i H ∧ Qd H) ∨ ((Its x).go i H ∧ ∃ Nx : Hp → Prop, (∀ H', Nx H' → ∃ m', m' < m ∧ W (i + 1) m' H') ∧ ∀ y H', (Its x).yld i H y H' → gName k y (wipe σ [k]) H' fun σ2 H2 => wipe σ2 [k] = wipe σ [k] ∧ tt σ2 H2 fun b H3 =>
        if b = true then te σ2 H3 fun y H4 => ∃ acc, H4 D = some (.lst acc) ∧ acc.length < sizeLine ∧ Nx (upd H4 D (.lst (acc ++ [y]))) else Nx H3) := by
  have hx := len_tl x
  refine ⟨fun i m H => m = (tl x).length - i ∧ i ≤ (tl x).length ∧ Same H1 H ∧ H D = some (.lst ((((tl x).take i).filter p).map f)), ⟨_, rfl, Nat.zero_le _, same_new hD, upd_same⟩, ?_⟩
  rintro i m H ⟨em, hi, s2, e2⟩
  by_cases hlt : i < (tl x).length
  · refine .inr ⟨by
      show i < x.cps.size
      have h : x.cps.size = (tl x).length := hx
      omega, fun H4 => Same H1 H4 ∧ H4 D = some (.lst ((((tl x).take (i + 1)).filter p).map f)), fun H' h => ⟨(tl x).length - (i + 1), by omega, rfl, hlt, h⟩, ?_⟩
    rintro y H' ⟨rfl, c, hc, rfl⟩
    have hc' : (tl x)[i]? = some c := by rw [show tl x = x.cps.toList from rfl, Array.getElem?_toList]; exact hc
    have hm := List.mem_of_getElem? hc'
    refine ⟨wipe1, ?_⟩
    refine lc_step (b := p c) (y := f c) hD s2 e2 (flt_len hc' (by omega)) (ht c _ hm s2) (fun hp H3 s3 => he c H3 hm hp (s2.trans s3)) fun H4 s4 e4 => ⟨s4, ?_⟩
    rw [flt_snoc hc']
    exact e4
  · have ei : i = (tl x).length := by omega
    refine .inl ⟨by
      show x.cps.size ≤ i
      have h : x.cps.size = (tl x).length := hx
      omega, hd H s2 ?_⟩
    rw [ei, List.take_length] at e2
    exact e2
/-- over a tuple -/
theorem lc_pure_tup {te : TE} {tt : TT} {k : Nat} {H1 : Hp} {D a : Addr} {xs : List V} {Qd : Hp → Prop} (p : V → Bool) (f : V → V) (hn : xs.length ≤ 100000) (hD : H1 D = none) (hS : H1 a = some (.tup xs))
    (ht : ∀ x H2, x ∈ xs → Same H1 H2 → ∀ R : Bool → Hp → Prop, (∀ H3, Same H2 H3 → R (p x) H3) → tt ((wipe σ [k]).set k (some x)) H2 R)
    (he : ∀ x H2, x ∈ xs → p x = true → Same H1 H2 → ∀ R : VK, (∀ H3, Same H2 H3 → R (f x) H3) → te ((wipe σ [k]).set k (some x)) H2 R)
    (hd : ∀ H2, Same H1 H2 → H2 D = some (.lst ((xs.filter p).map f)) → Qd H2) :
    ∃ W : Nat → Nat → Hp → Prop, (∃ m, W 0 m (upd H1 D (.lst []))) ∧ ∀ i m H, W i m H →
      ((Itt K a).stop i H ∧ Qd H) ∨ ((Itt K a).go i H ∧ ∃ Nx : Hp → Prop, (∀ H', Nx H' → ∃ m', m' < m ∧ W (i + 1) m' H') ∧ ∀ x H', (Itt K a).yld i H x H' → gName k x (wipe σ [k]) H' fun σ2 H2 => wipe σ2 [k] = wipe σ [k] ∧ tt σ2 H2 fun b H3 =>
        if b = true then te σ2 H3 fun y H4 => ∃ acc, H4 D = some (.lst acc) ∧ acc.length < sizeLine ∧ Nx (upd H4 D (.lst (acc ++ [y]))) else Nx H3) := by
  refine lc_tup (K := K) (a := a) (xs := xs) (fun i H2 => Same H1 H2 ∧ H2 D = some (.lst (((xs.take i).filter p).map f))) ⟨same_new hD, upd_same⟩ (fun i H2 _ h => .inl (.inl (h.1 _ _ hS))) ?_ ?_
  · rintro i x H2 hx ⟨s2, e2⟩
    have hm : x ∈ xs := List.mem_of_getElem? hx
    refine ⟨wipe1, ?_⟩
    refine lc_step (b := p x) (y := f x) hD s2 e2 (flt_len hx hn) (ht x _ hm s2) (fun hp H3 s3 => he x H3 hm hp (s2.trans s3)) fun H4 s4 e4 => ⟨s4, ?_⟩
    rw [flt_snoc hx]
    exact e4
  · rintro H2 ⟨s2, e2⟩
    rw [List.take_length] at e2
    exact hd H2 s2 e2
end
theorem all_bools {α : Type} (l : List α) (f : α → Bool) : ((l.filter fun _ => true).map fun x => V.bl (f x)) = (l.map f).map V.bl := by
  rw [List.filter_eq_self.mpr (fun _ _ => rfl), List.map_map]
  rfl
/-! ### things of any kind -/
mutual
inductive Rd (H : Hp) : V → PyData → Prop where
  | non : Rd H .non .none
  | bl (b : Bool) : Rd H (.bl b) (.bool b)
  | int (i : Int) : Rd H (.int i) (.int i)
  | str (x : Str) : Rd H (.str x) (.str x)
  | lst {a : Addr} {xs : List V} {ds : List PyData} : H a = some (.lst xs) → RdAll H xs ds → Rd H (.ref a) (.list ds)
  | tup {a : Addr} {xs : List V} {ds : List PyData} : H a = some (.tup xs) → RdAll H xs ds → Rd H (.ref a) (.tuple ds)
  | dct {a : Addr} : H a = some (.dK []) → Rd H (.ref a) (.dict [])
inductive RdAll (H : Hp) : List V → List PyData → Prop where
  | nil : RdAll H [] []
  | cons {v : V} {vs : List V} {d : PyData} {ds : List PyData} : Rd H v d → RdAll H vs ds → RdAll H (v :: vs) (d :: ds)
end
mutual
theorem Rd.same {H H' : Hp} (s : Same H H') : ∀ {v : V} {d : PyData}, Rd H v d → Rd H' v d
  | _, _, .non => .non
  | _, _, .bl b => .bl b
  | _, _, .int i => .int i
  | _, _, .str x => .str x
  | _, _, .lst h g => .lst (s _ _ h) (RdAll.same s g)
  | _, _, .tup h g => .tup (s _ _ h) (RdAll.same s g)
  | _, _, .dct h => .dct (s _ _ h)
theorem RdAll.same {H H' : Hp} (s : Same H H') : ∀ {vs : List V} {ds : List PyData}, RdAll H vs ds → RdAll H' vs ds
  | _, _, .nil => .nil
  | _, _, .cons h g => .cons (Rd.same s h) (RdAll.same s g)
end
theorem RdAll.len {H : Hp} : ∀ {vs : List V} {ds : List PyData}, RdAll H vs ds → vs.length = ds.length
  | _, _, .nil => rfl
  | _, _, .cons _ g => by rw [List.length_cons, List.length_cons, RdAll.len g]
theorem RdAll.at {H : Hp} : ∀ {vs : List V} {ds : List PyData} {i : Nat} {v : V}, RdAll H vs ds → vs[i]? = some v → ∃ d, ds[i]? = some d ∧ Rd H v d
  | _, _, 0, _, .cons h _, e => ⟨_, rfl, by rw [← Option.some.inj e]; exact h⟩
  | _, _, i + 1, _, .cons _ g, e => RdAll.at (i := i) g e
theorem rdAll_strs {H : Hp} : ∀ ks : List Str, RdAll H (ks.map V.str) (ks.map PyData.str)
  | [] => .nil
  | k :: ks => .cons (.str k) (rdAll_strs ks)
inductive Bnd (B : Nat) : PyData → Prop where
  | non : Bnd B .none
  | bl (b : Bool) : Bnd B (.bool b)
  | int {i : Int} (h : i.natAbs ≤ 10 ^ 30 + B) : Bnd B (.int i)
  | str {x : Str} (h : x.length ≤ B) : Bnd B (.str x)
  | lst {ds : List PyData} (h : ds.length ≤ B) (a : ∀ d ∈ ds, Bnd B d) : Bnd B (.list ds)
  | tup {ds : List PyData} (h : ds.length ≤ B) (a : ∀ d ∈ ds, Bnd B d) : Bnd B (.tuple ds)
  | dct : Bnd B (.dict [])
def tyName : PyData → String
  | .none => "NoneType" | .bool _ => "bool" | .int _ => "int" | .str _ => "str" | .list _ => "list" | .tuple _ => "tuple" | .dict _ => "dict"
theorem Rd.ty {K : PySem.W.Frag} {H : Hp} {v : V} {d : PyData} (r : Rd H v d) : TyX K H v (.type (tyName d)) := by
  cases r with
  | non => exact .base .non
  | bl b => exact .base (.bl b)
  | int i => exact .base (.int i)
  | str x => exact .base (.str x)
  | lst h g => exact .base (.lst h)
  | tup h g => exact .base (.tup h)
  | dct h => exact .base (.dK h)
def instD (T : String) (d : PyData) : Bool := tyName d == T || (T == "int" && tyName d == "bool")
theorem kit_inst {K : PySem.W.Frag} {d : PyData} {T : String} (hT : T ∈ ["str", "tuple", "list", "int", "bool"]) : PySem.W.kitOne K (.type (tyName d)) (.type T) = some (instD T d) := by
  refine kit_ty (r := instD T d) ?_
  have key : ∀ n ∈ ["NoneType", "bool", "int", "str", "list", "tuple", "dict"], ∀ T ∈ ["str", "tuple", "list", "int", "bool"], kitB n T = some (n == T || (T == "int" && n == "bool")) := by decide +kernel
  refine key (tyName d) ?_ T hT
  cases d <;> simp [tyName]
def isWorthD : PyData → Bool
  | .str s => decide (WorthS s)
  | _ => false
def isNameD : PyData → Bool
  | .str s => decide (1 ≤ s.length) && decide (s.length ≤ 8) && (tl s).all fun c => decide (97 ≤ c ∧ c ≤ 122)
  | _ => false
def isKeyD : PyData → Bool
  | .str s => decide (WorthS s) && (decide (1 ≤ s.length) && decide (s.length ≤ 40))
  | _ => false
def isRefD : PyData → Bool
  | .tuple [n, .tuple ks] => isNameD n && (decide (ks.length ≤ 6) && ks.all isKeyD)
  | _ => false
def spThing (f : PyData → Bool) : Sp := fun vs H Q _ => ∃ v d, vs = [v] ∧ Rd H v d ∧ Bnd 100000 d ∧ ∀ H', Same H H' → Q (.bl (f d)) H'
theorem letters_mem {c : Nat} : decide (c ∈ tl (Str.ofString "abcdefghijklmnopqrstuvwxyz")) = decide (97 ≤ c ∧ c ≤ 122) := by
  have e : tl (Str.ofString "abcdefghijklmnopqrstuvwxyz") = (List.range 26).map (· + 97) := by decide +kernel
  rw [e]
  refine decide_eq_decide.mpr ?_
  rw [List.mem_map]
  constructor
  · rintro ⟨k, hk, rfl⟩
    have := List.mem_range.mp hk
    omega
  · intro h
    exact ⟨c - 97, List.mem_range.mpr (by omega), by omega⟩
theorem lawSigns_dec {c : Nat} : decide (c ∈ tl lawSigns) = decide (Wc c) := decide_eq_decide.mpr lawSigns_mem
theorem all_dec {l : List Nat} {p : Nat → Prop} [DecidablePred p] : (l.map fun c => decide (p c)).all id = decide (∀ c ∈ l, p c) := by
  rw [List.all_map, Bool.eq_iff_iff, List.all_eq_true, decide_eq_true_eq]
  exact ⟨fun h c hc => of_decide_eq_true (h c hc), fun h c hc => decide_eq_true (h c hc)⟩
end Sk
namespace Sk
open PySem PySem.Spec PyProof.Rows L2
theorem iteT_of {b : Bool} {A B : Prop} (h : if b = true then A else B) (e : b = true) : A := by rw [if_pos e] at h; exact h
theorem iteF_of {b : Bool} {A B : Prop} (h : if b = true then A else B) (e : b = false) : B := by
  rw [if_neg (by rw [e]; exact Bool.false_ne_true)] at h
  exact h
theorem instD_str_ne {H : Hp} {v : V} {d : PyData} (r : Rd H v d) (e : ¬ instD "str" d = true) : instD "str" d = false := Bool.eq_false_iff.mpr e
end Sk
namespace Sk
open PySem PySem.Spec PyProof.Rows L2
mutual
theorem Rd.uniq {H : Hp} : ∀ {v : V} {d e : PyData}, Rd H v d → Rd H v e → d = e
  | _, _, _, .non, r => by cases r; rfl
  | _, _, _, .bl b, r => by cases r; rfl
  | _, _, _, .int i, r => by cases r; rfl
  | _, _, _, .str x, r => by cases r; rfl
  | _, _, _, .lst h g, r => by
    cases r with
    | lst h' g' => rw [h] at h'; cases h'; rw [RdAll.uniq g g']
    | tup h' g' => rw [h] at h'; cases h'
    | dct h' => rw [h] at h'; cases h'
  | _, _, _, .tup h g, r => by
    cases r with
    | lst h' g' => rw [h] at h'; cases h'
    | tup h' g' => rw [h] at h'; cases h'; rw [RdAll.uniq g g']
    | dct h' => rw [h] at h'; cases h'
  | _, _, _, .dct h, r => by
    cases r with
    | lst h' g' => rw [h] at h'; cases h'
    | tup h' g' => rw [h] at h'; cases h'
    | dct h' => rfl
theorem RdAll.uniq {H : Hp} : ∀ {vs : List V} {ds es : List PyData}, RdAll H vs ds → RdAll H vs es → ds = es
  | _, _, _, .nil, r => by cases r; rfl
  | _, _, _, .cons h g, r => by
    cases r with
    | cons h' g' => rw [Rd.uniq h h', RdAll.uniq g g']
end
open Classical in
noncomputable def datOf (H : Hp) (v : V) : PyData := if h : ∃ d, Rd H v d then h.choose else .none
theorem datOf_eq {H : Hp} {v : V} {d : PyData} (r : Rd H v d) : datOf H v = d := by
  have h : ∃ d, Rd H v d := ⟨d, r⟩
  unfold datOf
  rw [dif_pos h]
  exact Rd.uniq h.choose_spec r
theorem RdAll.map {H : Hp} : ∀ {vs : List V} {ds : List PyData}, RdAll H vs ds → ds = vs.map (datOf H)
  | _, _, .nil => rfl
  | _, _, .cons h g => by rw [List.map_cons, datOf_eq h, ← RdAll.map g]
theorem RdAll.each {H : Hp} : ∀ {vs : List V} {ds : List PyData}, RdAll H vs ds → ∀ v ∈ vs, Rd H v (datOf H v)
  | _, _, .nil, v, h => nomatch h
  | _, _, .cons h g, v, hv => by
    rcases List.mem_cons.mp hv with rfl | hv
    · rw [datOf_eq h]; exact h
    · exact RdAll.each g v hv
end Sk

namespace Sk
open PySem PySem.Spec PyProof.Rows L2
/-! ### good names, keys, references, as things -/
theorem nameS_is {s : Str} (h : NameS s) : isNameD (.str s) = true := by
  obtain ⟨h1, h2, h3⟩ := h
  show (decide (1 ≤ s.length) && decide (s.length ≤ 8) && _) = true
  rw [decide_eq_true h1, decide_eq_true h2, Bool.true_and, Bool.true_and, List.all_eq_true]
  exact fun c hc => decide_eq_true (h3 c hc)
theorem keyS_is {s : Str} (h : KeyS s) : isKeyD (.str s) = true := by
  obtain ⟨h1, h2, h3⟩ := h
  show (decide (WorthS s) && (decide (1 ≤ s.length) && decide (s.length ≤ 40))) = true
  rw [decide_eq_true h1, decide_eq_true h2, decide_eq_true h3]
  rfl
theorem isKey_to {s : Str} (h : isKeyD (.str s) = true) : KeyS s := by
  have h : (decide (WorthS s) && (decide (1 ≤ s.length) && decide (s.length ≤ 40))) = true := h
  rw [Bool.and_eq_true, Bool.and_eq_true, decide_eq_true_eq, decide_eq_true_eq, decide_eq_true_eq] at h
  exact ⟨h.2.1, h.2.2, h.1⟩
def refD (n : Str) (ks : List Str) : PyData := .tuple [.str n, .tuple (ks.map PyData.str)]
theorem ref_rd {H : Hp} {v : V} {n : Str} {ks : List Str} (r : RefAt H v n ks) : Rd H v (refD n ks) := by
  obtain ⟨a, k, rfl, h1, h2⟩ := r
  exact .tup h1 (.cons (.str n) (.cons (.tup h2 (rdAll_strs ks)) .nil))
theorem ref_is {n : Str} {ks : List Str} (h : RefS n ks) : isRefD (refD n ks) = true := by
  show (isNameD (.str n) && (decide ((ks.map PyData.str).length ≤ 6) && (ks.map PyData.str).all isKeyD)) = true
  rw [nameS_is h.name, List.length_map, decide_eq_true h.len, Bool.true_and, Bool.true_and, List.all_eq_true]
  intro d hd
  obtain ⟨k, hk, rfl⟩ := List.mem_map.mp hd
  exact keyS_is (h.keys k hk)
theorem ref_bnd {n : Str} {ks : List Str} (h : RefS n ks) : Bnd 100000 (refD n ks) := by
  refine .tup (by show 2 ≤ 100000; decide) fun d hd => ?_
  rcases List.mem_cons.mp hd with rfl | hd
  · exact .str (Nat.le_trans h.name.2.1 (by decide))
  · rw [List.mem_singleton.mp hd]
    refine .tup (by rw [List.length_map]; exact Nat.le_trans h.len (by decide)) fun d hd => ?_
    obtain ⟨k, hk, rfl⟩ := List.mem_map.mp hd
    exact .str (Nat.le_trans (h.keys k hk).2.1 (by decide))
theorem numS_bits {x : Str} (h : x.length ≤ 400) : (numS x).natAbs.log2 < 1920 := by
  have hd : PySem.NumText.AllDigits (figsOf (tl x)) := fun c hc => isFig_iff.mp (mem_takeWhile hc)
  have h2 : (figsOf (tl x)).length ≤ x.length := by
    rw [len_tl]
    exact Nat.le_trans ((List.takeWhile_sublist _).length_le) ((List.dropWhile_sublist _).length_le)
  have h3 : (numS x).natAbs = PySem.NumText.digitsVal (figsOf (tl x)) := by
    unfold numS numL
    split <;> omega
  have h4 := digitsVal_lt _ _ rfl hd
  refine PySem.Flt.log2_lt_of (by decide) ?_
  rw [h3]
  refine Nat.lt_of_lt_of_le h4 (Nat.le_trans (Nat.pow_le_pow_left (by decide : 10 ≤ 2 ^ 4) _) ?_)
  rw [← Nat.pow_mul]
  exact Nat.pow_le_pow_right (by decide) (by omega)
end Sk
namespace Sk
open PySem PySem.Spec PyProof.Rows L2
theorem dv_strsL {K : PySem.W.Frag} {H : Hp} {a : Addr} {ks : List Str} (h : SqL K H a (ks.map V.str)) : DV K H (.ref a) ks := dv_lst h fun x _ => Dp.str x
end Sk

namespace Sk
open PySem PySem.Spec PyProof.Rows L2
open PySem.W (Datum DatumOrd Tup T3 dataLt dataLe alike AllAlike Sortable EachIs)
/-! ### sorted(xs) of data -/
def rSortD (K : PySem.W.Frag) : List V → Hp → VK → Prop := fun vs H Q => ∃ (a : Addr) (xs : List V) (key : V → PyData), vs = [.ref a] ∧ SqL K H a xs ∧ (∀ x ∈ xs, Dp K H x (key x)) ∧ AllAlike (xs.map key) ∧ Sortable (xs.map key) ∧ (∀ x ∈ xs, (key x).depth ≤ 40) ∧
  ∀ p, H p = none → Q (.ref p) (upd H p (.lst (xs.mergeSort (dataLe false key))))
theorem eachD {X : Cx} {pins : List (Addr × Obj)} {σ : L2.St} {H : Hp} {s : Shared} (I : Inv X pins σ H s) (key : V → PyData) : ∀ {xs : List V} {us : List Value}, (∀ x ∈ xs, Dp X.K H x (key x)) → Vals xs us → EachIs (fun v x => ∃ as, Reads s.heap v (key x) as) us xs
  | _, _, _, .nil => .nil
  | _, _, h, .cons r t => .cons (Dp.reads I _ _ _ (h _ List.mem_cons_self) r) (eachD I key (fun x hx => h x (List.mem_cons_of_mem _ hx)) t)
theorem k_sortD {X : Cx} (K : PySem.W.Frag) (hu : X.A.units + 64 < cLine) (e : X.K = K := by rfl) : CallR X (.builtin "sorted") (rSortD K) := by
  subst e
  intro pins s σ H vs us Q I r h
  obtain ⟨a, xs, key, rfl, hs, hk, hal, hsk, hd, q⟩ := h
  obtain rfl := Vals.ref1 r
  obtain ⟨its, rv, hl, hz⟩ := I.list hs
  refine PySem.W.sorted_data (R := fun u x => RelV x u) (bs := xs) (enc := key) hl.isList (eachVals rv) (eachD I key hk rv) hal hsk hz (fun x hx => by have := hd x hx; omega) fun out ho eo => ?_
  obtain ⟨c, hc⟩ := PyProof.Rows.sortedAll_at s.heap its out.toArray
  have hml : (xs.mergeSort (dataLe false key)).length = xs.length := List.length_mergeSort _
  refine ⟨.ref (s.heap.objs.size + 1), _, I.laid (t' := s.toks) (o := .lst (xs.mergeSort (dataLe false key))) (fun _ _ => PyProof.Rows.sortedAll_old) (Nat.le_succ _) ⟨by rw [hml]; exact hz, out, c, valsEach eo, hc⟩, rfl, q _ (I.hok.fresh (Nat.le_succ _))⟩
/-- of numbers, of truths, of texts -/
def kI : V → PyData | .int i => .int i | _ => .none
def kB : V → PyData | .bl b => .bool b | _ => .none
def kS : V → PyData | .str x => .str x | _ => .none
def leI (a b : Int) : Bool := decide (a ≤ b)
def leB (a b : Bool) : Bool := !a || b
def leS (a b : Str) : Bool := !decide (tl b < tl a)
theorem sort_of {α : Type} [DecidableEq α] [DatumOrd α] {K : PySem.W.Frag} {H : Hp} {a : Addr} {xs : List α} {Q : VK} (f : α → V) (key : V → PyData) (hf : ∀ x, key (f x) = Datum.toD x) (hd : Datum.depth α ≤ 40) (hsk : Sortable ((xs.map f).map key)) (h : SqL K H a (xs.map f)) (hx : ∀ x, DV K H (f x) x)
    (q : ∀ p, H p = none → Q (.ref p) (upd H p (.lst ((xs.mergeSort fun x y => !DatumOrd.lt y x).map f)))) : rSortD K [.ref a] H Q := by
  refine ⟨a, xs.map f, key, rfl, h, fun v hv => ?_, ?_, hsk, fun v hv => ?_, fun p hp => ?_⟩
  · obtain ⟨x, _, rfl⟩ := List.mem_map.mp hv
    rw [hf]
    exact hx x
  · intro d hd e he
    rw [List.map_map] at hd he
    obtain ⟨x, _, rfl⟩ := List.mem_map.mp hd
    obtain ⟨y, _, rfl⟩ := List.mem_map.mp he
    show alike (key (f x)) (key (f y)) = true
    rw [hf, hf]
    exact DatumOrd.alike x y
  · obtain ⟨x, _, rfl⟩ := List.mem_map.mp hv
    rw [hf]
    exact Nat.le_trans (Datum.depth_le x) hd
  · have e : (xs.map f).mergeSort (dataLe false key) = (xs.mergeSort fun x y => !DatumOrd.lt y x).map f := by
      refine (List.map_mergeSort (r := fun x y => !DatumOrd.lt y x) (s := dataLe false key) (f := f) fun x _ y _ => ?_).symm
      show (!DatumOrd.lt y x) = !dataLt (key (f y)) (key (f x))
      rw [hf, hf, DatumOrd.lt_eq]
    rw [e]
    exact q p hp
theorem sort_ints {K : PySem.W.Frag} {H : Hp} {a : Addr} {xs : List Int} {Q : VK} (h : SqL K H a (xs.map V.int)) (q : ∀ p, H p = none → Q (.ref p) (upd H p (.lst ((xs.mergeSort fun x y => !DatumOrd.lt y x).map V.int)))) : rSortD K [.ref a] H Q :=
  sort_of V.int kI (fun _ => rfl) (by decide) (.inr fun d hd => by
    rw [List.map_map] at hd
    obtain ⟨x, _, rfl⟩ := List.mem_map.mp hd
    exact ⟨(fun z => nomatch z), (fun _ z => nomatch z)⟩) h (fun x => .int x) q
theorem sort_bools {K : PySem.W.Frag} {H : Hp} {a : Addr} {xs : List Bool} {Q : VK} (h : SqL K H a (xs.map V.bl)) (q : ∀ p, H p = none → Q (.ref p) (upd H p (.lst ((xs.mergeSort fun x y => !DatumOrd.lt y x).map V.bl)))) : rSortD K [.ref a] H Q :=
  sort_of V.bl kB (fun _ => rfl) (by decide) (.inr fun d hd => by
    rw [List.map_map] at hd
    obtain ⟨x, _, rfl⟩ := List.mem_map.mp hd
    exact ⟨(fun z => nomatch z), (fun _ z => nomatch z)⟩) h (fun x => .bl x) q
theorem sort_strs {K : PySem.W.Frag} {H : Hp} {a : Addr} {xs : List Str} {Q : VK} (h : SqL K H a (xs.map V.str)) (q : ∀ p, H p = none → Q (.ref p) (upd H p (.lst ((xs.mergeSort fun x y => !DatumOrd.lt y x).map V.str)))) : rSortD K [.ref a] H Q :=
  sort_of V.str kS (fun _ => rfl) (by decide) (.inr fun d hd => by
    rw [List.map_map] at hd
    obtain ⟨x, _, rfl⟩ := List.mem_map.mp hd
    exact ⟨(fun z => nomatch z), (fun _ z => nomatch z)⟩) h (fun x => .str x) q
/-! ### the order of keys -/
theorem ltK_nn {a b : Str} (ha : isNumS a = true) (hb : isNumS b = true) : ltK a b = decide (numS a < numS b) := by
  unfold ltK rankT
  rw [if_pos ha, if_pos hb]
  show (if (0 : Int) = 0 then (if numS a = numS b then DatumOrd.lt (Str.ofString "") (Str.ofString "") else decide (numS a < numS b)) else _) = _
  rw [if_pos rfl]
  by_cases h : numS a = numS b
  · rw [if_pos h, h, decide_eq_false (Int.lt_irrefl _)]
    decide +kernel
  · rw [if_neg h]
theorem ltK_nt {a b : Str} (ha : isNumS a = true) (hb : isNumS b = false) : ltK a b = true := by
  unfold ltK rankT
  rw [if_pos ha, if_neg (by rw [hb]; exact Bool.false_ne_true)]
  rfl
theorem ltK_tn {a b : Str} (ha : isNumS a = false) (hb : isNumS b = true) : ltK a b = false := by
  unfold ltK rankT
  rw [if_neg (by rw [ha]; exact Bool.false_ne_true), if_pos hb]
  rfl
theorem ltK_tt {a b : Str} (ha : isNumS a = false) (hb : isNumS b = false) : ltK a b = decide (tl a < tl b) := by
  unfold ltK rankT
  rw [if_neg (by rw [ha]; exact Bool.false_ne_true), if_neg (by rw [hb]; exact Bool.false_ne_true)]
  show (if (1 : Int) = 1 then (if (0 : Int) = 0 then DatumOrd.lt a b else _) else _) = _
  rw [if_pos rfl, if_pos rfl]
  rfl
theorem ltK_irrefl (a : Str) : ltK a a = false := by
  cases h : isNumS a with
  | true => rw [ltK_nn h h, decide_eq_false (Int.lt_irrefl _)]
  | false => rw [ltK_tt h h, decide_eq_false (List.lt_irrefl _)]
theorem ltK_trans {a b c : Str} (h1 : ltK a b = true) (h2 : ltK b c = true) : ltK a c = true := by
  cases ha : isNumS a <;> cases hb : isNumS b <;> cases hc : isNumS c
  · rw [ltK_tt ha hb, decide_eq_true_eq] at h1
    rw [ltK_tt hb hc, decide_eq_true_eq] at h2
    rw [ltK_tt ha hc, decide_eq_true_eq]
    exact List.lt_trans h1 h2
  · rw [ltK_tn hb hc] at h2; cases h2
  · rw [ltK_tn ha hb] at h1; cases h1
  · rw [ltK_tn ha hb] at h1; cases h1
  · exact ltK_nt ha hc
  · rw [ltK_tn hb hc] at h2; cases h2
  · exact ltK_nt ha hc
  · rw [ltK_nn ha hb, decide_eq_true_eq] at h1
    rw [ltK_nn hb hc, decide_eq_true_eq] at h2
    rw [ltK_nn ha hc, decide_eq_true_eq]
    omega
theorem ltK_asymm {a b : Str} (h : ltK a b = true) : ltK b a = false := by
  cases h2 : ltK b a with
  | false => rfl
  | true => have := ltK_trans h h2; rw [ltK_irrefl] at this; cases this
theorem numS_inj {a b : Str} (ha : isNumS a = true) (hb : isNumS b = true) (h : numS a = numS b) : a = b := by
  rw [isNumS_iff, decide_eq_true_eq] at ha hb
  rw [← ha, ← hb, h]
theorem ltK_total {a b : Str} (h : a ≠ b) : ltK a b = true ∨ ltK b a = true := by
  cases ha : isNumS a <;> cases hb : isNumS b
  · rw [ltK_tt ha hb, ltK_tt hb ha, decide_eq_true_eq, decide_eq_true_eq]
    by_cases h1 : tl a < tl b
    · exact .inl h1
    · refine .inr ?_
      have h2 : tl b ≤ tl a := List.not_lt.mp h1
      rcases List.le_iff_lt_or_eq.mp h2 with h3 | h3
      · exact h3
      · exact absurd (tl_inj h3.symm) h
  · exact .inr (ltK_nt hb ha)
  · exact .inl (ltK_nt ha hb)
  · rw [ltK_nn ha hb, ltK_nn hb ha, decide_eq_true_eq, decide_eq_true_eq]
    have : numS a ≠ numS b := fun z => h (numS_inj ha hb z)
    omega
theorem leK_total (a b : Str) : (leK a b || leK b a) = true := by
  unfold leK
  cases h1 : ltK b a with
  | false => rfl
  | true => rw [ltK_asymm h1]; rfl
theorem leK_trans (a b c : Str) (h1 : leK a b = true) (h2 : leK b c = true) : leK a c = true := by
  unfold leK at *
  rw [Bool.not_eq_true'] at *
  by_cases e : a = b
  · rw [e]; exact h2
  by_cases e2 : b = c
  · rw [← e2]; exact h1
  have g1 := (ltK_total e).resolve_right (by rw [h1]; exact Bool.false_ne_true)
  have g2 := (ltK_total e2).resolve_right (by rw [h2]; exact Bool.false_ne_true)
  exact ltK_asymm (ltK_trans g1 g2)
theorem leK_anti {a b : Str} (h1 : leK a b = true) (h2 : leK b a = true) : a = b := by
  unfold leK at *
  rw [Bool.not_eq_true'] at *
  refine Decidable.byContradiction fun e => ?_
  rcases ltK_total e with h | h
  · rw [h2] at h; cases h
  · rw [h1] at h; cases h
theorem sortK_pairwise (ks : List Str) : (sortK ks).Pairwise fun a b => leK a b = true := List.pairwise_mergeSort leK_trans leK_total ks
theorem sortK_perm (ks : List Str) : (sortK ks).Perm ks := List.mergeSort_perm ks leK
/-- two rows in order, of the same items, are one -/
theorem sorted_same {α : Type} {r : α → α → Prop} (anti : ∀ a b, r a b → r b a → a = b) : ∀ {l m : List α}, l.Pairwise r → m.Pairwise r → l.Perm m → l = m
  | [], m, _, _, p => (List.nil_perm.mp p).symm
  | x :: l, [], _, _, p => absurd p.symm.nil_eq (by intro z; cases z)
  | x :: l, y :: m, h1, h2, p => by
    have hxy : x = y := by
      by_cases e : x = y
      · exact e
      have hx : x ∈ m := by
        rcases List.mem_cons.mp (p.mem_iff.mp List.mem_cons_self) with h | h
        · exact absurd h e
        · exact h
      have hy : y ∈ l := by
        rcases List.mem_cons.mp (p.mem_iff.mpr List.mem_cons_self) with h | h
        · exact absurd h.symm e
        · exact h
      exact anti x y (List.rel_of_pairwise_cons h1 hy) (List.rel_of_pairwise_cons h2 hx)
    subst hxy
    rw [sorted_same anti (List.Pairwise.of_cons h1) (List.Pairwise.of_cons h2) (List.Perm.cons_inv p)]
theorem sortK_same {ks js : List Str} (p : ks.Perm js) : sortK ks = sortK js :=
  sorted_same (fun _ _ => leK_anti) (sortK_pairwise ks) (sortK_pairwise js) (((sortK_perm ks).trans p).trans (sortK_perm js).symm)
end Sk

namespace Sk
open PySem PySem.Spec PyProof.Rows L2
open PySem.W (Datum DatumOrd Tup T3 dataLt dataLe alike AllAlike Sortable)
section
variable {X : Cx} {o e : Expr} {es : List Expr} {to te : TE} {t : TA} {name : Str} {apos cpos : Pos} {T id : String} {r : V → List V → Hp → VK → Prop}
theorem k_bm (K : PySem.W.Frag) (pa : PlainAttrs T) (slot : Slot T name id) (hty : typeOf (.builtin id) = pure (.type "method_descriptor")) (hm : MtR X id r) (ho : PE X o to) (ha : PA X (e :: es) t) (eK : X.K = K := by rfl)
    (hbase : attributeBase o name X.env (eval o X.env) = eval o X.env := by rfl)
    (hfew : ((backTo cpos (starEach (e :: es) X.env)).all (fun x => !x.1) && (backToKw cpos (keywordEach [] X.env)).all (fun x => x.1.isSome)
      && decide ((e :: es).length + ([] : List Keyword).length + (if ([] : List Keyword).isEmpty then 0 else 1) < 30)) = true := by rfl)
    (hline : (apos.endLine == cpos.line) = true := by rfl) (hs : starEach (e :: es) X.env = (false, eval e X.env) :: starEach es X.env := by rfl) (hplain : (backTo cpos (starEach es X.env)).any (·.1) = false := by rfl) :
    PE X (.Call (.Attribute o name apos) (e :: es) [] cpos) (tBM K T r to t) := by
  subst eK
  exact pe_bm pa slot hty hm ho ha hbase hfew hline hs hplain
theorem k_revL (K : PySem.W.Frag) {k : Nat} {p1 p2 p3 pos : Pos} (he : PE X e te) (eK : X.K = K := by rfl) : PE X (.Subscript e (.Slice none none (some (.UnaryOp .USub (.Constant (.int 1) k p1) p2)) p3) pos) (tRevL K te) := by
  subst eK
  exact pe_revL he
/-- xs.count(x) of truths -/
def rCountB (K : PySem.W.Frag) : V → List V → Hp → VK → Prop := fun x vs H Q => ∃ (a : Addr) (bs : List Bool) (b : Bool), x = .ref a ∧ vs = [.bl b] ∧ SqL K H a (bs.map V.bl) ∧ Q (.int ((bs.countP fun y => decide (y = b) : Nat) : Int)) H
theorem k_countB (K : PySem.W.Frag) (hu : X.A.units + 64 < cLine) (e : X.K = K := by rfl) : MtR X "list.count" (rCountB K) := by
  subst e
  intro pins s σ H x vs v us Q I rx rv h
  obtain ⟨a, bs, b, rfl, rfl, hs, q⟩ := h
  cases rx
  obtain ⟨u, rfl, ru⟩ := rv.one
  obtain ⟨its, r, hl, hz⟩ := I.list hs
  obtain ⟨as, ra⟩ := Dp.readsAll I _ _ _ (dv_all (K := X.K) (f := V.bl) (xs := bs) fun x _ => Dp.bl x) r
  obtain ⟨cs, rc⟩ := Dp.reads I _ _ _ (Dp.bl (K := X.K) (H := H) b) ru
  refine PySem.W.count_list_datum (α := Bool) (xs := bs) (x := b) hl.isList ⟨as, ra⟩ ⟨cs, rc⟩ (by show _ + 1 + 0 < _; omega) ⟨.int _, H, I.tok _, ⟨_, rfl⟩, q⟩
end
section
variable {K : PySem.W.Frag} {σ : L2.St}
/-- a comprehension over a range that finds none -/
theorem lc_none_range {te : TE} {tt : TT} {k n : Nat} {lo : Int} {H1 : Hp} {D : Addr} {Qd : Hp → Prop} (hD : H1 D = none)
    (ht : ∀ i H2, i < n → Same H1 H2 → ∀ R : Bool → Hp → Prop, (∀ H3, Same H2 H3 → R false H3) → tt ((wipe σ [k]).set k (some (.int (lo + (i : Int))))) H2 R)
    (hd : ∀ H2, Same H1 H2 → H2 D = some (.lst []) → Qd H2) :
    ∃ W : Nat → Nat → Hp → Prop, (∃ m, W 0 m (upd H1 D (.lst []))) ∧ ∀ i m H, W i m H →
      ((Itr lo n).stop i H ∧ Qd H) ∨ ((Itr lo n).go i H ∧ ∃ Nx : Hp → Prop, (∀ H', Nx H' → ∃ m', m' < m ∧ W (i + 1) m' H') ∧ ∀ x H', (Itr lo n).yld i H x H' → gName k x (wipe σ [k]) H' fun σ2 H2 => wipe σ2 [k] = wipe σ [k] ∧ tt σ2 H2 fun b H3 =>
        if b = true then te σ2 H3 fun y H4 => ∃ acc, H4 D = some (.lst acc) ∧ acc.length < sizeLine ∧ Nx (upd H4 D (.lst (acc ++ [y]))) else Nx H3) := by
  refine lc_range (lo := lo) (n := n) (fun i H2 => Same H1 H2 ∧ H2 D = some (.lst [])) ⟨same_new hD, upd_same⟩ ?_ fun H2 h => hd H2 h.1 h.2
  rintro i H2 hi ⟨s2, e2⟩
  refine ⟨wipe1, ht i H2 hi s2 _ fun H3 s3 => ?_⟩
  exact iteF ⟨s2.trans s3, s3 _ _ e2⟩
end
/-! ### the order of keys: marks, numbers, one after another -/
theorem row_same (ks : List Str) : sortK (sortK ks) = sortK ks := sortK_same (sortK_perm ks)
theorem marks_down {ks : List Str} : (sortK ks).Pairwise fun a b => isNumS b = true → isNumS a = true := by
  refine (sortK_pairwise ks).imp fun {a b} h hb => ?_
  cases ha : isNumS a with
  | true => rfl
  | false =>
    unfold leK at h
    rw [ltK_nt hb ha] at h
    cases h
theorem marks_sorted (l : List Str) (h : l.Pairwise fun a b => isNumS b = true → isNumS a = true) : ((l.map isNumS).mergeSort fun x y => !DatumOrd.lt y x).reverse = l.map isNumS := by
  have e : (l.map isNumS).mergeSort (fun x y => !DatumOrd.lt y x) = (l.map isNumS).reverse := by
    refine sorted_same (r := fun x y => (!DatumOrd.lt y x) = true) (by decide) ?_ ?_ ?_
    · exact List.pairwise_mergeSort (by decide) (by decide) _
    · rw [List.pairwise_reverse, List.pairwise_map]
      refine h.imp fun {a b} hb => ?_
      cases ha : isNumS a <;> cases hbb : isNumS b
      · rfl
      · rw [hb hbb] at ha; cases ha
      · rfl
      · rfl
    · exact (List.mergeSort_perm _ _).trans (List.reverse_perm _).symm
  rw [e, List.reverse_reverse]
theorem take_nums : ∀ {l : List Str}, l.Pairwise (fun a b => isNumS b = true → isNumS a = true) → ∀ x ∈ l.take ((l.map isNumS).countP fun y => decide (y = true)), isNumS x = true
  | [], _, x, hx => by simp at hx
  | a :: r, h, x, hx => by
    cases ha : isNumS a with
    | true =>
      rw [List.map_cons, ha, List.countP_cons_of_pos (by rfl), List.take_succ_cons] at hx
      rcases List.mem_cons.mp hx with rfl | hx
      · exact ha
      · exact take_nums (List.Pairwise.of_cons h) x hx
    | false =>
      have h0 : (((a :: r).map isNumS).countP fun y => decide (y = true)) = 0 := by
        rw [List.countP_eq_zero]
        intro y hy
        obtain ⟨z, hz, rfl⟩ := List.mem_map.mp hy
        rw [decide_eq_true_eq]
        intro e
        rcases List.mem_cons.mp hz with rfl | hz
        · rw [ha] at e; cases e
        · rw [List.rel_of_pairwise_cons h hz e] at ha; cases ha
      rw [h0] at hx
      cases hx
theorem nums_sorted {l : List Str} (h : l.Pairwise fun a b => leK a b = true) (hn : ∀ x ∈ l, isNumS x = true) : ((l.map numS).mergeSort fun x y => !DatumOrd.lt y x) = l.map numS := by
  refine List.mergeSort_of_pairwise ?_
  rw [List.pairwise_map]
  refine List.Pairwise.imp_of_mem (fun {a b} ha hb hab => ?_) h
  unfold leK at hab
  rw [ltK_nn (hn b hb) (hn a ha)] at hab
  exact hab
theorem numbers_up (ks : List Str) (c : Nat) (hc : c = ((sortK ks).map isNumS).countP fun y => decide (y = true)) : ((((sortK ks).take c).map numS).mergeSort fun x y => !DatumOrd.lt y x) = ((sortK ks).take c).map numS := by
  subst hc
  exact nums_sorted ((sortK_pairwise ks).sublist (List.take_sublist _ _)) (take_nums marks_down)
theorem row_next {ks : List Str} {i : Nat} {a b : Str} (ha : (sortK ks)[i]? = some a) (hb : (sortK ks)[i + 1]? = some b) : ltK b a = false := by
  obtain ⟨ia, ea⟩ := List.getElem?_eq_some_iff.mp ha
  obtain ⟨ib, eb⟩ := List.getElem?_eq_some_iff.mp hb
  have h := List.pairwise_iff_getElem.mp (sortK_pairwise ks) i (i + 1) ia ib (Nat.lt_succ_self i)
  rw [ea, eb] at h
  unfold leK at h
  rwa [Bool.not_eq_true'] at h
theorem ltK_more {a b : Str} {c : Nat} (h : tl b = tl a ++ [c]) (hb : isNumS b = false) : ltK a b = true := by
  cases ha : isNumS a with
  | true => exact ltK_nt ha hb
  | false =>
    rw [ltK_tt ha hb, decide_eq_true_eq, h]
    induction tl a with
    | nil => exact List.nil_lt_cons _ _
    | cons x r ih => exact List.cons_lt_cons_iff.mpr (.inr ⟨rfl, ih⟩)
theorem ltK_ne {a b : Str} : (ltK a b || ltK b a) = !decide (a = b) := by
  by_cases e : a = b
  · subst e
    rw [ltK_irrefl, decide_eq_true rfl]
    rfl
  · rw [decide_eq_false e]
    rcases ltK_total e with h | h <;> rw [h]
    · rfl
    · rw [Bool.or_true]; rfl
end Sk
namespace Sk
open PySem PySem.Spec PyProof.Rows L2
def spMixed (K : PySem.W.Frag) : Sp := fun vs H Q _ => ∃ (b a : Addr) (N : Nat) (ks : List Str), vs = [.ref b, .ref a] ∧ N < 2 ^ 48 ∧ BagAt N b H ∧ SqL K H a (ks.map V.str) ∧ ks.length ≤ 1000 ∧
  ∀ (H' : Hp) (p : Addr) (js : List Str), Chg b H H' → BagAt (N + 1000) b H' → H' p = some (.lst (js.map V.str)) → js.Perm ks → Q (.ref p) H'
def spThree : Sp := fun vs H Q _ => ∃ a b c : Str, vs = [.str a, .str b, .str c] ∧ a.length ≤ 640 ∧ b.length ≤ 640 ∧ c.length ≤ 640 ∧ ∀ H', Same H H' → Q (.bl true) H'
theorem none_of_same {H H' : Hp} (s : Same H H') {a : Addr} (h : H' a = none) : H a = none := by
  cases e : H a with
  | none => rfl
  | some o => rw [s _ _ e] at h; cases h
theorem none_of_chg {b : Addr} {H H' : Hp} (s : Chg b H H') {a : Addr} (n : a ≠ b) (h : H' a = none) : H a = none := by
  cases e : H a with
  | none => rfl
  | some o => rw [s _ _ n e] at h; cases h
theorem perm_pop {α : Type} {ys rest ks : List α} {k : Nat} {x : α} (h : rest[k]? = some x) (p : (ys ++ rest).Perm ks) : ((ys ++ [x]) ++ rest.eraseIdx k).Perm ks := by
  refine List.Perm.trans ?_ p
  rw [List.append_assoc]
  refine List.Perm.append_left ys ?_
  obtain ⟨hk, e⟩ := List.getElem?_eq_some_iff.mp h
  have h2 : rest = rest.take k ++ x :: rest.drop (k + 1) := by rw [← e, List.getElem_cons_drop, List.take_append_drop]
  rw [List.eraseIdx_eq_take_drop_succ]
  conv => rhs; rw [h2]
  exact (List.perm_middle (a := x) (l₁ := rest.take k) (l₂ := rest.drop (k + 1))).symm
end Sk
namespace Sk
open PySem PySem.Spec PyProof.Rows L2
/-- one statement, then the rest from what it leaves -/
theorem seq_abs {t u : TS} {D : Ends} {σ : L2.St} {H : Hp} (P : L2.St → Hp → Prop) (first : ∀ N : L2.St → Hp → Prop, (∀ σ' H', P σ' H' → N σ' H') → t { D with nx := N } σ H) (rest : ∀ σ' H', P σ' H' → u D σ' H') : tSeq t u D σ H := first (u D) rest
structure KeysOk (ks : List Str) : Prop where
  ne : 0 < ks.length
  len : ks.length ≤ 20
  each : ∀ k ∈ ks, k.length ≤ 70
theorem KeysOk.sort {ks : List Str} (h : KeysOk ks) : KeysOk (sortK ks) := by
  have p := sortK_perm ks
  exact ⟨by rw [p.length_eq]; exact h.ne, by rw [p.length_eq]; exact h.len, fun k hk => h.each k (p.mem_iff.mp hk)⟩
theorem KeysOk.each640 {ks : List Str} (h : KeysOk ks) : ∀ k ∈ ks, k.length ≤ 640 := fun k hk => Nat.le_trans (h.each k hk) (by decide)
end Sk
namespace Sk
open PySem PySem.Spec PyProof.Rows L2
theorem len_intS (n : Int) {k : Nat} (hk : 0 < k) (h : n.natAbs < 10 ^ k) : (Str.ofString (toString n)).length ≤ k + 2 := by
  rw [len_tl, tl_int]
  have key : ∀ (m n : Nat), n < 10 ^ m → (decL n).length ≤ m + 1 := by
    intro m
    induction m with
    | zero => intro n h; rw [show n = 0 by omega, decL_lt (by decide)]; decide
    | succ m ih =>
      intro n h
      by_cases hn : n < 10
      · rw [decL_lt hn]; show 1 ≤ _; omega
      · rw [decL_ge (by omega), List.length_append, List.length_singleton]
        have := ih (n / 10) (by rw [Nat.pow_succ] at h; omega)
        omega
  have := key k n.natAbs h
  unfold intL
  split
  · rw [List.length_cons]; omega
  · omega
theorem numS_lt {x : Str} (h : x.length ≤ 60) : (numS x).natAbs < 10 ^ 60 := by
  have hd : PySem.NumText.AllDigits (figsOf (tl x)) := fun c hc => isFig_iff.mp (mem_takeWhile hc)
  have h2 : (figsOf (tl x)).length ≤ x.length := by
    rw [len_tl]
    exact Nat.le_trans ((List.takeWhile_sublist _).length_le) ((List.dropWhile_sublist _).length_le)
  have h3 : (numS x).natAbs = PySem.NumText.digitsVal (figsOf (tl x)) := by
    unfold numS numL
    split <;> omega
  have h4 := digitsVal_lt _ _ rfl hd
  rw [h3]
  exact Nat.lt_of_lt_of_le h4 (Nat.pow_le_pow_right (by decide) (by omega))
theorem next_ok {x : Str} (h : x.length ≤ 60) : (numS x + 1).natAbs.log2 < 1920 ∧ (intS (numS x + 1)).length ≤ 63 := by
  have h1 := numS_lt h
  have h2 : (numS x + 1).natAbs < 10 ^ 61 := by
    have : (10 : Nat) ^ 61 = 10 ^ 60 * 10 := by decide
    omega
  exact ⟨Nat.lt_of_lt_of_le (PySem.Flt.log2_lt_of (n := (numS x + 1).natAbs) (k := 210) (by decide) (Nat.lt_of_lt_of_le h2 (by decide))) (by decide), len_intS _ (by decide) h2⟩
end Sk
namespace Sk
open PySem PySem.Spec PyProof.Rows L2
theorem len_appS (a b : Str) : (a ++ b).length = a.length + b.length := Array.size_append
end Sk
namespace Sk
open PySem PySem.Spec PyProof.Rows L2
theorem BagAt.neS {N : Nat} {b a : Addr} {H : Hp} {ks : List Str} (h : BagAt N b H) (e : H a = some (.lst (ks.map V.str))) : a ≠ b := by
  rintro rfl
  obtain ⟨x, y, z, e2, _⟩ := h
  rw [e2] at e
  have e3 := HO.lst.inj (Option.some.inj e)
  cases ks with
  | nil => cases e3
  | cons k r => cases e3
def onStr (f : Str → V) : V → V
  | .str x => f x
  | _ => .non
section
variable {K : PySem.W.Frag} {σ : L2.St}
/-- [elt for x in keys] -/
theorem lc_map_strs {te : TE} {k : Nat} {H1 : Hp} {D a : Addr} {ks : List Str} {Qd : Hp → Prop} (f : Str → V) (hn : ks.length ≤ 100000) (hD : H1 D = none) (hS : SqL K H1 a (ks.map V.str))
    (he : ∀ x H2, x ∈ ks → Same H1 H2 → ∀ R : VK, (∀ H3, Same H2 H3 → R (f x) H3) → te ((wipe σ [k]).set k (some (.str x))) H2 R)
    (hd : ∀ H2, Same H1 H2 → H2 D = some (.lst (ks.map f)) → Qd H2) :
    ∃ W : Nat → Nat → Hp → Prop, (∃ m, W 0 m (upd H1 D (.lst []))) ∧ ∀ i m H, W i m H →
      ((Itl K a).stop i H ∧ Qd H) ∨ ((Itl K a).go i H ∧ ∃ Nx : Hp → Prop, (∀ H', Nx H' → ∃ m', m' < m ∧ W (i + 1) m' H') ∧ ∀ x H', (Itl K a).yld i H x H' → gName k x (wipe σ [k]) H' fun σ2 H2 => wipe σ2 [k] = wipe σ [k] ∧ tYes σ2 H2 fun b H3 =>
        if b = true then te σ2 H3 fun y H4 => ∃ acc, H4 D = some (.lst acc) ∧ acc.length < sizeLine ∧ Nx (upd H4 D (.lst (acc ++ [y]))) else Nx H3) := by
  refine lc_pure_list (K := K) (fun _ => true) (onStr f) (by rw [List.length_map]; exact hn) hD hS (fun x H2 _ s2 R q2 => q2 _ (.refl _)) (fun v H2 hv _ s2 R q2 => ?_) (fun H2 s2 e2 => hd H2 s2 ?_)
  · obtain ⟨x, hx, rfl⟩ := List.mem_map.mp hv
    exact he x H2 hx s2 R q2
  · rw [e2, List.filter_eq_self.mpr (fun _ _ => rfl), List.map_map]
    rfl
end
end Sk
namespace Sk
open PySem PySem.Spec PyProof.Rows L2
theorem at_strs {ks : List Str} {i : Nat} {x : Str} {j : Int} (hj : j = (i : Int)) (h : ks[i]? = some x) : atI (ks.map V.str) j = some (.str x) := by
  subst hj
  refine atI_nat ?_
  rw [List.getElem?_map, h]
  rfl
end Sk

namespace Sk
open PySem PySem.Spec PyProof.Rows L2
open PySem.W (Datum DatumOrd Tup T3 dataLt dataLe alike AllAlike Sortable)
/-! ### the law's own order of keys -/
theorem find_sign {c : Nat} (h : Wc c) : Txt.find lawSigns ⟨#[c]⟩ = if c < 37 then (c : Int) - 32 else (c : Int) - 33 := by
  have key : ∀ c < 127, Wc c → Txt.find lawSigns ⟨#[c]⟩ = if c < 37 then (c : Int) - 32 else (c : Int) - 33 := by decide +kernel
  exact key c (by have := h.2.1; omega) h
theorem find_lt {c d : Nat} (hc : Wc c) (hd : Wc d) : decide (Txt.find lawSigns ⟨#[c]⟩ < Txt.find lawSigns ⟨#[d]⟩) = decide (c < d) := by
  rw [find_sign hc, find_sign hd]
  refine decide_eq_decide.mpr ?_
  have h1 := hc.2.2
  have h2 := hd.2.2
  split <;> split <;> omega
theorem lt_at : ∀ {l m : List Nat} {i : Nat} {c d : Nat}, l.take i = m.take i → l[i]? = some c → m[i]? = some d → c ≠ d → (l < m ↔ c < d)
  | [], m, i, c, d, _, hc, _, _ => by simp at hc
  | x :: l, [], i, c, d, _, _, hd, _ => by simp at hd
  | x :: l, y :: m, 0, c, d, _, hc, hd, ne => by
    simp only [List.getElem?_cons_zero, Option.some.injEq] at hc hd
    subst hc hd
    rw [List.cons_lt_cons_iff]
    exact ⟨fun h => h.elim id fun h => absurd h.1 ne, .inl⟩
  | x :: l, y :: m, i + 1, c, d, h, hc, hd, ne => by
    rw [List.take_succ_cons, List.take_succ_cons] at h
    obtain ⟨e, h2⟩ := List.cons.inj h
    subst e
    rw [List.getElem?_cons_succ] at hc hd
    rw [List.cons_lt_cons_iff]
    have ih := lt_at h2 hc hd ne
    exact ⟨fun z => z.elim (fun z => absurd z (Nat.lt_irrefl _)) fun z => ih.mp z.2, fun z => .inr ⟨rfl, ih.mpr z⟩⟩
theorem lt_pre : ∀ {l m : List Nat} {n : Nat}, l.take n = m.take n → n = min l.length m.length → (l < m ↔ l.length < m.length)
  | [], [], n, _, _ => by simp
  | [], y :: m, n, _, _ => by simp
  | x :: l, [], n, _, _ => by simp
  | x :: l, y :: m, n, h, hn => by
    rw [List.length_cons, List.length_cons] at hn ⊢
    obtain ⟨k, rfl⟩ : ∃ k, n = k + 1 := ⟨n - 1, by omega⟩
    rw [List.take_succ_cons, List.take_succ_cons] at h
    obtain ⟨e, h2⟩ := List.cons.inj h
    subst e
    have ih := lt_pre h2 (by omega)
    rw [List.cons_lt_cons_iff]
    constructor
    · rintro (z | z)
      · exact absurd z (Nat.lt_irrefl _)
      · have := ih.mp z.2; omega
    · intro z
      exact .inr ⟨rfl, ih.mpr (by omega)⟩
theorem take_next {l m : List Nat} {i c : Nat} (h : l.take i = m.take i) (hc : l[i]? = some c) (hd : m[i]? = some c) : l.take (i + 1) = m.take (i + 1) := by
  rw [List.take_add_one, List.take_add_one, h, hc, hd]
/-- texts of signs of worths, not too long -/
structure KeyW (s : Str) : Prop where
  len : s.length ≤ 100
  worth : WorthS s
def spAheadK : Sp := fun vs H Q _ => ∃ a b : Str, vs = [.str a, .str b] ∧ KeyW a ∧ KeyW b ∧ ∀ H', Same H H' → Q (.bl (ltK a b)) H'
def spRightK (K : PySem.W.Frag) : Sp := fun vs H Q _ => ∃ (a : Addr) (ks : List Str), vs = [.ref a] ∧ SqL K H a (ks.map V.str) ∧ ks.length ≤ 1000 ∧ (∀ k ∈ ks, KeyW k) ∧ ∀ H', Same H H' → Q (.bl true) H'
theorem tl_own {a : Str} : decide (V.str (Str.ofString (toString (numS a))) = V.str a) = isNumS a := by
  rw [isNumS_iff]
  exact decide_eq_decide.mpr ⟨fun z => V.str.inj z, fun z => congrArg V.str z⟩
/-- sorted texts of two rows that are one but for their order -/
def sortS (ks : List Str) : List Str := ks.mergeSort fun x y => !DatumOrd.lt y x
theorem ltS_irrefl (a : Str) : DatumOrd.lt a a = false := decide_eq_false (List.lt_irrefl (tl a))
theorem leS_iff {a b : Str} : (!DatumOrd.lt b a) = true ↔ tl a ≤ tl b := by
  rw [Bool.not_eq_true']
  show decide (tl b < tl a) = false ↔ _
  rw [decide_eq_false_iff_not]
  exact List.not_lt
theorem sortS_same {ks js : List Str} (p : ks.Perm js) : sortS ks = sortS js := by
  have tr : ∀ a b c : Str, (!DatumOrd.lt b a) = true → (!DatumOrd.lt c b) = true → (!DatumOrd.lt c a) = true := fun a b c h1 h2 => leS_iff.mpr (List.le_trans (leS_iff.mp h1) (leS_iff.mp h2))
  have tot : ∀ a b : Str, ((!DatumOrd.lt b a) || (!DatumOrd.lt a b)) = true := fun a b => by
    rcases List.le_total (tl a) (tl b) with h | h
    · rw [leS_iff.mpr h]; rfl
    · rw [leS_iff.mpr h, Bool.or_true]
  refine sorted_same (r := fun x y => (!DatumOrd.lt y x) = true) (fun a b h1 h2 => ?_) (List.pairwise_mergeSort tr tot ks) (List.pairwise_mergeSort tr tot js) (((List.mergeSort_perm ks _).trans p).trans (List.mergeSort_perm js _).symm)
  exact tl_inj (List.le_antisymm (leS_iff.mp h1) (leS_iff.mp h2))
theorem in_true (x y : Bool) : inV (.bl true) [.bl x, .bl y] = (x || y) := by cases x <;> cases y <;> rfl
theorem cutV_mem {xs : List V} {lo hi : Option Int} {v : V} (h : v ∈ cutV xs lo hi) : v ∈ xs := List.mem_of_mem_drop (List.mem_of_mem_take h)
theorem cutV_len {xs : List V} {lo hi : Option Int} : (cutV xs lo hi).length ≤ xs.length := by
  unfold cutV
  rw [List.length_take, List.length_drop]
  omega
theorem KeyW.of {s : Str} (h : KeyS s) : KeyW s := ⟨Nat.le_trans h.2.1 (by decide), h.2.2⟩
end Sk
namespace Sk
open PySem PySem.Spec PyProof.Rows L2
theorem rd_isList {K : PySem.W.Frag} {a : Addr} {xs : List V} {H : Hp} {Q : VK} (h : H a = some (.lst xs)) (q : Q (.bl true) H) : rIsi K [.ref a, .ty "list"] H Q :=
  ⟨_, _, _, _, true, rfl, .ty "list", .base (.lst h), kit_ty (by decide +kernel), q⟩
end Sk
namespace Sk
open PySem PySem.Spec PyProof.Rows L2
def onStrB (f : Str → Bool) : V → Bool
  | .str x => f x
  | _ => false
theorem strs_filter (f : Str → Bool) (g : Str → Str) (ks : List Str) : ((ks.map V.str).filter (onStrB f)).map (onStr fun x => V.str (g x)) = ((ks.filter f).map g).map V.str := by
  rw [List.filter_map, List.map_map, List.map_map]
  rfl
end Sk
namespace Sk
open PySem PySem.Spec PyProof.Rows L2
def topS (i : Nat) : Stmt := PySem.Challenge.pw_stemkeep_k03_keys_in_order.main.body.getD i (.Pass ⟨0, 0, 0, 0⟩)
abbrev s_signs_ahead : Stmt := topS 2
abbrev N_signs_ahead : List Str := ["worth", "some", "many"]
theorem sc_signs_ahead : FnScope N_signs_ahead ["worth", "some"] (defScope s_signs_ahead) := ⟨rfl, rfl, rfl, by decide +kernel, rfl, by decide +kernel, by decide +kernel⟩
abbrev s_number_of : Stmt := topS 3
abbrev N_number_of : List Str := ["worth", "marks", "figures", "number"]
theorem sc_number_of : FnScope N_number_of ["worth"] (defScope s_number_of) := ⟨rfl, rfl, rfl, by decide +kernel, rfl, by decide +kernel, by decide +kernel⟩
abbrev s_is_number_text : Stmt := topS 4
abbrev N_is_number_text : List Str := ["worth", "figures"]
theorem sc_is_number_text : FnScope N_is_number_text ["worth"] (defScope s_is_number_text) := ⟨rfl, rfl, rfl, by decide +kernel, rfl, by decide +kernel, by decide +kernel⟩
abbrev s_rank : Stmt := topS 5
abbrev N_rank : List Str := ["key"]
theorem sc_rank : FnScope N_rank ["key"] (defScope s_rank) := ⟨rfl, rfl, rfl, by decide +kernel, rfl, by decide +kernel, by decide +kernel⟩
abbrev s_before : Stmt := topS 6
abbrev N_before : List Str := ["one", "other"]
theorem sc_before : FnScope N_before ["one", "other"] (defScope s_before) := ⟨rfl, rfl, rfl, by decide +kernel, rfl, by decide +kernel, by decide +kernel⟩
abbrev s_in_order : Stmt := topS 7
abbrev N_in_order : List Str := ["keys"]
theorem sc_in_order : FnScope N_in_order ["keys"] (defScope s_in_order) := ⟨rfl, rfl, rfl, by decide +kernel, rfl, by decide +kernel, by decide +kernel⟩
abbrev s_law_cell_at : Stmt := topS 9
abbrev N_law_cell_at : List Str := ["script", "k"]
theorem sc_law_cell_at : FnScope N_law_cell_at ["script", "k"] (defScope s_law_cell_at) := ⟨rfl, rfl, rfl, by decide +kernel, rfl, by decide +kernel, by decide +kernel⟩
abbrev s_law_bag : Stmt := topS 10
abbrev N_law_bag : List Str := ["cell", "nth"]
theorem sc_law_bag : FnScope N_law_bag ["cell", "nth"] (defScope s_law_bag) := ⟨rfl, rfl, rfl, by decide +kernel, rfl, by decide +kernel, by decide +kernel⟩
abbrev s_law_draw : Stmt := topS 11
abbrev N_law_draw : List Str := ["bag", "many", "found", "mixed"]
theorem sc_law_draw : FnScope N_law_draw ["bag", "many"] (defScope s_law_draw) := ⟨rfl, rfl, rfl, by decide +kernel, rfl, by decide +kernel, by decide +kernel⟩
abbrev s_law_signs : Stmt := topS 12
abbrev N_law_signs : List Str := ["few"]
theorem sc_law_signs : FnScope N_law_signs [] (defScope s_law_signs) := ⟨rfl, rfl, rfl, by decide +kernel, rfl, by decide +kernel, by decide +kernel⟩
abbrev s_law_text : Stmt := topS 13
abbrev N_law_text : List Str := ["bag", "most", "lot", "number", "near", "some", "many", "k"]
theorem sc_law_text : FnScope N_law_text ["bag", "most"] (defScope s_law_text) := ⟨rfl, rfl, rfl, by decide +kernel, rfl, by decide +kernel, by decide +kernel⟩
abbrev s_law_key : Stmt := topS 14
abbrev N_law_key : List Str := ["bag", "found"]
theorem sc_law_key : FnScope N_law_key ["bag"] (defScope s_law_key) := ⟨rfl, rfl, rfl, by decide +kernel, rfl, by decide +kernel, by decide +kernel⟩
abbrev s_law_number : Stmt := topS 15
abbrev N_law_number : List Str := ["worth", "at", "minus", "found"]
theorem sc_law_number : FnScope N_law_number ["worth"] (defScope s_law_number) := ⟨rfl, rfl, rfl, by decide +kernel, rfl, by decide +kernel, by decide +kernel⟩
abbrev s_law_ahead : Stmt := topS 16
abbrev N_law_ahead : List Str := ["one", "other", "marks", "k"]
theorem sc_law_ahead : FnScope N_law_ahead ["one", "other"] (defScope s_law_ahead) := ⟨rfl, rfl, rfl, by decide +kernel, rfl, by decide +kernel, by decide +kernel⟩
abbrev s_law_right : Stmt := topS 17
abbrev N_law_right : List Str := ["keys", "handed", "found", "due", "k"]
theorem sc_law_right : FnScope N_law_right ["keys"] (defScope s_law_right) := ⟨rfl, rfl, rfl, by decide +kernel, rfl, by decide +kernel, by decide +kernel⟩
abbrev s_law : Stmt := topS 18
abbrev N_law : List Str := ["script", "k", "bag", "many", "keys", "one", "other", "found", "j", "key"]
theorem sc_law : FnScope N_law ["script"] (defScope s_law) := ⟨rfl, rfl, rfl, by decide +kernel, rfl, by decide +kernel, by decide +kernel⟩
structure Ad where
  a_signs_ahead : Addr
  d_signs_ahead : FuncData
  a_number_of : Addr
  d_number_of : FuncData
  a_is_number_text : Addr
  d_is_number_text : FuncData
  a_rank : Addr
  d_rank : FuncData
  a_before : Addr
  d_before : FuncData
  a_in_order : Addr
  d_in_order : FuncData
  a_law_cell_at : Addr
  d_law_cell_at : FuncData
  a_law_bag : Addr
  d_law_bag : FuncData
  a_law_draw : Addr
  d_law_draw : FuncData
  a_law_signs : Addr
  d_law_signs : FuncData
  a_law_text : Addr
  d_law_text : FuncData
  a_law_key : Addr
  d_law_key : FuncData
  a_law_number : Addr
  d_law_number : FuncData
  a_law_ahead : Addr
  d_law_ahead : FuncData
  a_law_right : Addr
  d_law_right : FuncData
  a_law : Addr
  d_law : FuncData
  t_FIGURES : Tok
structure Txt (K : PySem.W.Frag) (mg : Str → Option Value) (A : Ad) : Prop where
  F_signs_ahead : Fun K "signs_ahead" "signs_ahead" s_signs_ahead A.a_signs_ahead A.d_signs_ahead
  g_signs_ahead : mg "signs_ahead" = some (.ref A.a_signs_ahead)
  b_signs_ahead : Binds K A.d_signs_ahead ["worth", "some"] []
  F_number_of : Fun K "number_of" "number_of" s_number_of A.a_number_of A.d_number_of
  g_number_of : mg "number_of" = some (.ref A.a_number_of)
  b_number_of : Binds K A.d_number_of ["worth"] []
  F_is_number_text : Fun K "is_number_text" "is_number_text" s_is_number_text A.a_is_number_text A.d_is_number_text
  g_is_number_text : mg "is_number_text" = some (.ref A.a_is_number_text)
  b_is_number_text : Binds K A.d_is_number_text ["worth"] []
  F_rank : Fun K "rank" "rank" s_rank A.a_rank A.d_rank
  g_rank : mg "rank" = some (.ref A.a_rank)
  b_rank : Binds K A.d_rank ["key"] []
  F_before : Fun K "before" "before" s_before A.a_before A.d_before
  g_before : mg "before" = some (.ref A.a_before)
  b_before : Binds K A.d_before ["one", "other"] []
  F_in_order : Fun K "in_order" "in_order" s_in_order A.a_in_order A.d_in_order
  g_in_order : mg "in_order" = some (.ref A.a_in_order)
  b_in_order : Binds K A.d_in_order ["keys"] []
  F_law_cell_at : Fun K "_law_cell_at" "_law_cell_at" s_law_cell_at A.a_law_cell_at A.d_law_cell_at
  g_law_cell_at : mg "_law_cell_at" = some (.ref A.a_law_cell_at)
  b_law_cell_at : Binds K A.d_law_cell_at ["script", "k"] []
  F_law_bag : Fun K "_law_bag" "_law_bag" s_law_bag A.a_law_bag A.d_law_bag
  g_law_bag : mg "_law_bag" = some (.ref A.a_law_bag)
  b_law_bag : Binds K A.d_law_bag ["cell", "nth"] []
  F_law_draw : Fun K "_law_draw" "_law_draw" s_law_draw A.a_law_draw A.d_law_draw
  g_law_draw : mg "_law_draw" = some (.ref A.a_law_draw)
  b_law_draw : Binds K A.d_law_draw ["bag", "many"] []
  F_law_signs : Fun K "_law_signs" "_law_signs" s_law_signs A.a_law_signs A.d_law_signs
  g_law_signs : mg "_law_signs" = some (.ref A.a_law_signs)
  b_law_signs : Binds K A.d_law_signs [] []
  F_law_text : Fun K "_law_text" "_law_text" s_law_text A.a_law_text A.d_law_text
  g_law_text : mg "_law_text" = some (.ref A.a_law_text)
  b_law_text : Binds K A.d_law_text ["bag", "most"] []
  F_law_key : Fun K "_law_key" "_law_key" s_law_key A.a_law_key A.d_law_key
  g_law_key : mg "_law_key" = some (.ref A.a_law_key)
  b_law_key : Binds K A.d_law_key ["bag"] []
  F_law_number : Fun K "_law_number" "_law_number" s_law_number A.a_law_number A.d_law_number
  g_law_number : mg "_law_number" = some (.ref A.a_law_number)
  b_law_number : Binds K A.d_law_number ["worth"] []
  F_law_ahead : Fun K "_law_ahead" "_law_ahead" s_law_ahead A.a_law_ahead A.d_law_ahead
  g_law_ahead : mg "_law_ahead" = some (.ref A.a_law_ahead)
  b_law_ahead : Binds K A.d_law_ahead ["one", "other"] []
  F_law_right : Fun K "_law_right" "_law_right" s_law_right A.a_law_right A.d_law_right
  g_law_right : mg "_law_right" = some (.ref A.a_law_right)
  b_law_right : Binds K A.d_law_right ["keys"] []
  F_law : Fun K "law" "law" s_law A.a_law A.d_law
  g_law : mg "law" = some (.ref A.a_law)
  b_law : Binds K A.d_law ["script"] []
  n_bool : mg "bool" = none
  n_int : mg "int" = none
  n_isinstance : mg "isinstance" = none
  n_len : mg "len" = none
  n_list : mg "list" = none
  n_max : mg "max" = none
  n_min : mg "min" = none
  n_range : mg "range" = none
  n_sorted : mg "sorted" = none
  n_str : mg "str" = none
  c_FIGURES : mg "FIGURES" = some (.str (Str.ofString "0123456789") A.t_FIGURES)
theorem txt_mk {K : PySem.W.Frag} {h : Heap} {mg : Str → Option Value} (X : K.In h) (G : h.Ns mainGlobals mg)
    {f0 : Addr} {od0 an0 : Option Addr} {sl0 : Array (Option Value)} {oc0 kV0 dc0 pm0 cd0 ct0 : Value}
    (a0 : PySem.W.nsIn K mainGlobals "signs_ahead" = some (some (.ref f0))) (l0 : K.lookup f0 = some ⟨oc0, od0, .func (PySem.W.fnOf "signs_ahead" "signs_ahead" (defArgs s_signs_ahead) (defBody s_signs_ahead) (defScope s_signs_ahead) .none kV0 dc0 pm0 an0 cd0 ct0), sl0⟩) (c0 : PySem.W.codeIn K cd0 "signs_ahead" = true) (k0 : PySem.W.keepIn K (.ref f0) = true)
    {f1 : Addr} {od1 an1 : Option Addr} {sl1 : Array (Option Value)} {oc1 kV1 dc1 pm1 cd1 ct1 : Value}
    (a1 : PySem.W.nsIn K mainGlobals "number_of" = some (some (.ref f1))) (l1 : K.lookup f1 = some ⟨oc1, od1, .func (PySem.W.fnOf "number_of" "number_of" (defArgs s_number_of) (defBody s_number_of) (defScope s_number_of) .none kV1 dc1 pm1 an1 cd1 ct1), sl1⟩) (c1 : PySem.W.codeIn K cd1 "number_of" = true) (k1 : PySem.W.keepIn K (.ref f1) = true)
    {f2 : Addr} {od2 an2 : Option Addr} {sl2 : Array (Option Value)} {oc2 kV2 dc2 pm2 cd2 ct2 : Value}
    (a2 : PySem.W.nsIn K mainGlobals "is_number_text" = some (some (.ref f2))) (l2 : K.lookup f2 = some ⟨oc2, od2, .func (PySem.W.fnOf "is_number_text" "is_number_text" (defArgs s_is_number_text) (defBody s_is_number_text) (defScope s_is_number_text) .none kV2 dc2 pm2 an2 cd2 ct2), sl2⟩) (c2 : PySem.W.codeIn K cd2 "is_number_text" = true) (k2 : PySem.W.keepIn K (.ref f2) = true)
    {f3 : Addr} {od3 an3 : Option Addr} {sl3 : Array (Option Value)} {oc3 kV3 dc3 pm3 cd3 ct3 : Value}
    (a3 : PySem.W.nsIn K mainGlobals "rank" = some (some (.ref f3))) (l3 : K.lookup f3 = some ⟨oc3, od3, .func (PySem.W.fnOf "rank" "rank" (defArgs s_rank) (defBody s_rank) (defScope s_rank) .none kV3 dc3 pm3 an3 cd3 ct3), sl3⟩) (c3 : PySem.W.codeIn K cd3 "rank" = true) (k3 : PySem.W.keepIn K (.ref f3) = true)
    {f4 : Addr} {od4 an4 : Option Addr} {sl4 : Array (Option Value)} {oc4 kV4 dc4 pm4 cd4 ct4 : Value}
    (a4 : PySem.W.nsIn K mainGlobals "before" = some (some (.ref f4))) (l4 : K.lookup f4 = some ⟨oc4, od4, .func (PySem.W.fnOf "before" "before" (defArgs s_before) (defBody s_before) (defScope s_before) .none kV4 dc4 pm4 an4 cd4 ct4), sl4⟩) (c4 : PySem.W.codeIn K cd4 "before" = true) (k4 : PySem.W.keepIn K (.ref f4) = true)
    {f5 : Addr} {od5 an5 : Option Addr} {sl5 : Array (Option Value)} {oc5 kV5 dc5 pm5 cd5 ct5 : Value}
    (a5 : PySem.W.nsIn K mainGlobals "in_order" = some (some (.ref f5))) (l5 : K.lookup f5 = some ⟨oc5, od5, .func (PySem.W.fnOf "in_order" "in_order" (defArgs s_in_order) (defBody s_in_order) (defScope s_in_order) .none kV5 dc5 pm5 an5 cd5 ct5), sl5⟩) (c5 : PySem.W.codeIn K cd5 "in_order" = true) (k5 : PySem.W.keepIn K (.ref f5) = true)
    {f6 : Addr} {od6 an6 : Option Addr} {sl6 : Array (Option Value)} {oc6 kV6 dc6 pm6 cd6 ct6 : Value}
    (a6 : PySem.W.nsIn K mainGlobals "_law_cell_at" = some (some (.ref f6))) (l6 : K.lookup f6 = some ⟨oc6, od6, .func (PySem.W.fnOf "_law_cell_at" "_law_cell_at" (defArgs s_law_cell_at) (defBody s_law_cell_at) (defScope s_law_cell_at) .none kV6 dc6 pm6 an6 cd6 ct6), sl6⟩) (c6 : PySem.W.codeIn K cd6 "_law_cell_at" = true) (k6 : PySem.W.keepIn K (.ref f6) = true)
    {f7 : Addr} {od7 an7 : Option Addr} {sl7 : Array (Option Value)} {oc7 kV7 dc7 pm7 cd7 ct7 : Value}
    (a7 : PySem.W.nsIn K mainGlobals "_law_bag" = some (some (.ref f7))) (l7 : K.lookup f7 = some ⟨oc7, od7, .func (PySem.W.fnOf "_law_bag" "_law_bag" (defArgs s_law_bag) (defBody s_law_bag) (defScope s_law_bag) .none kV7 dc7 pm7 an7 cd7 ct7), sl7⟩) (c7 : PySem.W.codeIn K cd7 "_law_bag" = true) (k7 : PySem.W.keepIn K (.ref f7) = true)
    {f8 : Addr} {od8 an8 : Option Addr} {sl8 : Array (Option Value)} {oc8 kV8 dc8 pm8 cd8 ct8 : Value}
    (a8 : PySem.W.nsIn K mainGlobals "_law_draw" = some (some (.ref f8))) (l8 : K.lookup f8 = some ⟨oc8, od8, .func (PySem.W.fnOf "_law_draw" "_law_draw" (defArgs s_law_draw) (defBody s_law_draw) (defScope s_law_draw) .none kV8 dc8 pm8 an8 cd8 ct8), sl8⟩) (c8 : PySem.W.codeIn K cd8 "_law_draw" = true) (k8 : PySem.W.keepIn K (.ref f8) = true)
    {f9 : Addr} {od9 an9 : Option Addr} {sl9 : Array (Option Value)} {oc9 kV9 dc9 pm9 cd9 ct9 : Value}
    (a9 : PySem.W.nsIn K mainGlobals "_law_signs" = some (some (.ref f9))) (l9 : K.lookup f9 = some ⟨oc9, od9, .func (PySem.W.fnOf "_law_signs" "_law_signs" (defArgs s_law_signs) (defBody s_law_signs) (defScope s_law_signs) .none kV9 dc9 pm9 an9 cd9 ct9), sl9⟩) (c9 : PySem.W.codeIn K cd9 "_law_signs" = true) (k9 : PySem.W.keepIn K (.ref f9) = true)
    {f10 : Addr} {od10 an10 : Option Addr} {sl10 : Array (Option Value)} {oc10 kV10 dc10 pm10 cd10 ct10 : Value}
    (a10 : PySem.W.nsIn K mainGlobals "_law_text" = some (some (.ref f10))) (l10 : K.lookup f10 = some ⟨oc10, od10, .func (PySem.W.fnOf "_law_text" "_law_text" (defArgs s_law_text) (defBody s_law_text) (defScope s_law_text) .none kV10 dc10 pm10 an10 cd10 ct10), sl10⟩) (c10 : PySem.W.codeIn K cd10 "_law_text" = true) (k10 : PySem.W.keepIn K (.ref f10) = true)
    {f11 : Addr} {od11 an11 : Option Addr} {sl11 : Array (Option Value)} {oc11 kV11 dc11 pm11 cd11 ct11 : Value}
    (a11 : PySem.W.nsIn K mainGlobals "_law_key" = some (some (.ref f11))) (l11 : K.lookup f11 = some ⟨oc11, od11, .func (PySem.W.fnOf "_law_key" "_law_key" (defArgs s_law_key) (defBody s_law_key) (defScope s_law_key) .none kV11 dc11 pm11 an11 cd11 ct11), sl11⟩) (c11 : PySem.W.codeIn K cd11 "_law_key" = true) (k11 : PySem.W.keepIn K (.ref f11) = true)
    {f12 : Addr} {od12 an12 : Option Addr} {sl12 : Array (Option Value)} {oc12 kV12 dc12 pm12 cd12 ct12 : Value}
    (a12 : PySem.W.nsIn K mainGlobals "_law_number" = some (some (.ref f12))) (l12 : K.lookup f12 = some ⟨oc12, od12, .func (PySem.W.fnOf "_law_number" "_law_number" (defArgs s_law_number) (defBody s_law_number) (defScope s_law_number) .none kV12 dc12 pm12 an12 cd12 ct12), sl12⟩) (c12 : PySem.W.codeIn K cd12 "_law_number" = true) (k12 : PySem.W.keepIn K (.ref f12) = true)
    {f13 : Addr} {od13 an13 : Option Addr} {sl13 : Array (Option Value)} {oc13 kV13 dc13 pm13 cd13 ct13 : Value}
    (a13 : PySem.W.nsIn K mainGlobals "_law_ahead" = some (some (.ref f13))) (l13 : K.lookup f13 = some ⟨oc13, od13, .func (PySem.W.fnOf "_law_ahead" "_law_ahead" (defArgs s_law_ahead) (defBody s_law_ahead) (defScope s_law_ahead) .none kV13 dc13 pm13 an13 cd13 ct13), sl13⟩) (c13 : PySem.W.codeIn K cd13 "_law_ahead" = true) (k13 : PySem.W.keepIn K (.ref f13) = true)
    {f14 : Addr} {od14 an14 : Option Addr} {sl14 : Array (Option Value)} {oc14 kV14 dc14 pm14 cd14 ct14 : Value}
    (a14 : PySem.W.nsIn K mainGlobals "_law_right" = some (some (.ref f14))) (l14 : K.lookup f14 = some ⟨oc14, od14, .func (PySem.W.fnOf "_law_right" "_law_right" (defArgs s_law_right) (defBody s_law_right) (defScope s_law_right) .none kV14 dc14 pm14 an14 cd14 ct14), sl14⟩) (c14 : PySem.W.codeIn K cd14 "_law_right" = true) (k14 : PySem.W.keepIn K (.ref f14) = true)
    {f15 : Addr} {od15 an15 : Option Addr} {sl15 : Array (Option Value)} {oc15 kV15 dc15 pm15 cd15 ct15 : Value}
    (a15 : PySem.W.nsIn K mainGlobals "law" = some (some (.ref f15))) (l15 : K.lookup f15 = some ⟨oc15, od15, .func (PySem.W.fnOf "law" "law" (defArgs s_law) (defBody s_law) (defScope s_law) .none kV15 dc15 pm15 an15 cd15 ct15), sl15⟩) (c15 : PySem.W.codeIn K cd15 "law" = true) (k15 : PySem.W.keepIn K (.ref f15) = true)
    (z_bool : PySem.W.nsIn K mainGlobals "bool" = some none)
    (z_int : PySem.W.nsIn K mainGlobals "int" = some none)
    (z_isinstance : PySem.W.nsIn K mainGlobals "isinstance" = some none)
    (z_len : PySem.W.nsIn K mainGlobals "len" = some none)
    (z_list : PySem.W.nsIn K mainGlobals "list" = some none)
    (z_max : PySem.W.nsIn K mainGlobals "max" = some none)
    (z_min : PySem.W.nsIn K mainGlobals "min" = some none)
    (z_range : PySem.W.nsIn K mainGlobals "range" = some none)
    (z_sorted : PySem.W.nsIn K mainGlobals "sorted" = some none)
    (z_str : PySem.W.nsIn K mainGlobals "str" = some none)

    {t_FIGURES : Tok} (g_FIGURES : PySem.W.nsIn K mainGlobals "FIGURES" = some (some (.str (Str.ofString "0123456789") t_FIGURES)))
    : Txt K mg ⟨f0, PySem.W.fnOf "signs_ahead" "signs_ahead" (defArgs s_signs_ahead) (defBody s_signs_ahead) (defScope s_signs_ahead) .none kV0 dc0 pm0 an0 cd0 ct0, f1, PySem.W.fnOf "number_of" "number_of" (defArgs s_number_of) (defBody s_number_of) (defScope s_number_of) .none kV1 dc1 pm1 an1 cd1 ct1, f2, PySem.W.fnOf "is_number_text" "is_number_text" (defArgs s_is_number_text) (defBody s_is_number_text) (defScope s_is_number_text) .none kV2 dc2 pm2 an2 cd2 ct2, f3, PySem.W.fnOf "rank" "rank" (defArgs s_rank) (defBody s_rank) (defScope s_rank) .none kV3 dc3 pm3 an3 cd3 ct3, f4, PySem.W.fnOf "before" "before" (defArgs s_before) (defBody s_before) (defScope s_before) .none kV4 dc4 pm4 an4 cd4 ct4, f5, PySem.W.fnOf "in_order" "in_order" (defArgs s_in_order) (defBody s_in_order) (defScope s_in_order) .none kV5 dc5 pm5 an5 cd5 ct5, f6, PySem.W.fnOf "_law_cell_at" "_law_cell_at" (defArgs s_law_cell_at) (defBody s_law_cell_at) (defScope s_law_cell_at) .none kV6 dc6 pm6 an6 cd6 ct6, f7, PySem.W.fnOf "_law_bag" "_law_bag" (defArgs s_law_bag) (defBody s_law_bag) (defScope s_law_bag) .none kV7 dc7 pm7 an7 cd7 ct7, f8, PySem.W.fnOf "_law_draw" "_law_draw" (defArgs s_law_draw) (defBody s_law_draw) (defScope s_law_draw) .none kV8 dc8 pm8 an8 cd8 ct8, f9, PySem.W.fnOf "_law_signs" "_law_signs" (defArgs s_law_signs) (defBody s_law_signs) (defScope s_law_signs) .none kV9 dc9 pm9 an9 cd9 ct9, f10, PySem.W.fnOf "_law_text" "_law_text" (defArgs s_law_text) (defBody s_law_text) (defScope s_law_text) .none kV10 dc10 pm10 an10 cd10 ct10, f11, PySem.W.fnOf "_law_key" "_law_key" (defArgs s_law_key) (defBody s_law_key) (defScope s_law_key) .none kV11 dc11 pm11 an11 cd11 ct11, f12, PySem.W.fnOf "_law_number" "_law_number" (defArgs s_law_number) (defBody s_law_number) (defScope s_law_number) .none kV12 dc12 pm12 an12 cd12 ct12, f13, PySem.W.fnOf "_law_ahead" "_law_ahead" (defArgs s_law_ahead) (defBody s_law_ahead) (defScope s_law_ahead) .none kV13 dc13 pm13 an13 cd13 ct13, f14, PySem.W.fnOf "_law_right" "_law_right" (defArgs s_law_right) (defBody s_law_right) (defScope s_law_right) .none kV14 dc14 pm14 an14 cd14 ct14, f15, PySem.W.fnOf "law" "law" (defArgs s_law) (defBody s_law) (defScope s_law) .none kV15 dc15 pm15 an15 cd15 ct15, t_FIGURES⟩ where
  F_signs_ahead := fun_mk (st := s_signs_ahead) l0 c0 k0
  g_signs_ahead := PySem.W.mg_of X G a0
  b_signs_ahead := (fun_mk (st := s_signs_ahead) l0 c0 k0).binds (ps := ["worth", "some"]) fun _ _ _ _ _ _ us hl => match us, hl with | [_, _], _ => rfl
  F_number_of := fun_mk (st := s_number_of) l1 c1 k1
  g_number_of := PySem.W.mg_of X G a1
  b_number_of := (fun_mk (st := s_number_of) l1 c1 k1).binds (ps := ["worth"]) fun _ _ _ _ _ _ us hl => match us, hl with | [_], _ => rfl
  F_is_number_text := fun_mk (st := s_is_number_text) l2 c2 k2
  g_is_number_text := PySem.W.mg_of X G a2
  b_is_number_text := (fun_mk (st := s_is_number_text) l2 c2 k2).binds (ps := ["worth"]) fun _ _ _ _ _ _ us hl => match us, hl with | [_], _ => rfl
  F_rank := fun_mk (st := s_rank) l3 c3 k3
  g_rank := PySem.W.mg_of X G a3
  b_rank := (fun_mk (st := s_rank) l3 c3 k3).binds (ps := ["key"]) fun _ _ _ _ _ _ us hl => match us, hl with | [_], _ => rfl
  F_before := fun_mk (st := s_before) l4 c4 k4
  g_before := PySem.W.mg_of X G a4
  b_before := (fun_mk (st := s_before) l4 c4 k4).binds (ps := ["one", "other"]) fun _ _ _ _ _ _ us hl => match us, hl with | [_, _], _ => rfl
  F_in_order := fun_mk (st := s_in_order) l5 c5 k5
  g_in_order := PySem.W.mg_of X G a5
  b_in_order := (fun_mk (st := s_in_order) l5 c5 k5).binds (ps := ["keys"]) fun _ _ _ _ _ _ us hl => match us, hl with | [_], _ => rfl
  F_law_cell_at := fun_mk (st := s_law_cell_at) l6 c6 k6
  g_law_cell_at := PySem.W.mg_of X G a6
  b_law_cell_at := (fun_mk (st := s_law_cell_at) l6 c6 k6).binds (ps := ["script", "k"]) fun _ _ _ _ _ _ us hl => match us, hl with | [_, _], _ => rfl
  F_law_bag := fun_mk (st := s_law_bag) l7 c7 k7
  g_law_bag := PySem.W.mg_of X G a7
  b_law_bag := (fun_mk (st := s_law_bag) l7 c7 k7).binds (ps := ["cell", "nth"]) fun _ _ _ _ _ _ us hl => match us, hl with | [_, _], _ => rfl
  F_law_draw := fun_mk (st := s_law_draw) l8 c8 k8
  g_law_draw := PySem.W.mg_of X G a8
  b_law_draw := (fun_mk (st := s_law_draw) l8 c8 k8).binds (ps := ["bag", "many"]) fun _ _ _ _ _ _ us hl => match us, hl with | [_, _], _ => rfl
  F_law_signs := fun_mk (st := s_law_signs) l9 c9 k9
  g_law_signs := PySem.W.mg_of X G a9
  b_law_signs := (fun_mk (st := s_law_signs) l9 c9 k9).binds (ps := []) fun _ _ _ _ _ _ us hl => match us, hl with | [], _ => rfl
  F_law_text := fun_mk (st := s_law_text) l10 c10 k10
  g_law_text := PySem.W.mg_of X G a10
  b_law_text := (fun_mk (st := s_law_text) l10 c10 k10).binds (ps := ["bag", "most"]) fun _ _ _ _ _ _ us hl => match us, hl with | [_, _], _ => rfl
  F_law_key := fun_mk (st := s_law_key) l11 c11 k11
  g_law_key := PySem.W.mg_of X G a11
  b_law_key := (fun_mk (st := s_law_key) l11 c11 k11).binds (ps := ["bag"]) fun _ _ _ _ _ _ us hl => match us, hl with | [_], _ => rfl
  F_law_number := fun_mk (st := s_law_number) l12 c12 k12
  g_law_number := PySem.W.mg_of X G a12
  b_law_number := (fun_mk (st := s_law_number) l12 c12 k12).binds (ps := ["worth"]) fun _ _ _ _ _ _ us hl => match us, hl with | [_], _ => rfl
  F_law_ahead := fun_mk (st := s_law_ahead) l13 c13 k13
  g_law_ahead := PySem.W.mg_of X G a13
  b_law_ahead := (fun_mk (st := s_law_ahead) l13 c13 k13).binds (ps := ["one", "other"]) fun _ _ _ _ _ _ us hl => match us, hl with | [_, _], _ => rfl
  F_law_right := fun_mk (st := s_law_right) l14 c14 k14
  g_law_right := PySem.W.mg_of X G a14
  b_law_right := (fun_mk (st := s_law_right) l14 c14 k14).binds (ps := ["keys"]) fun _ _ _ _ _ _ us hl => match us, hl with | [_], _ => rfl
  F_law := fun_mk (st := s_law) l15 c15 k15
  g_law := PySem.W.mg_of X G a15
  b_law := (fun_mk (st := s_law) l15 c15 k15).binds (ps := ["script"]) fun _ _ _ _ _ _ us hl => match us, hl with | [_], _ => rfl
  n_bool := PySem.W.mg_none_of X G z_bool
  n_int := PySem.W.mg_none_of X G z_int
  n_isinstance := PySem.W.mg_none_of X G z_isinstance
  n_len := PySem.W.mg_none_of X G z_len
  n_list := PySem.W.mg_none_of X G z_list
  n_max := PySem.W.mg_none_of X G z_max
  n_min := PySem.W.mg_none_of X G z_min
  n_range := PySem.W.mg_none_of X G z_range
  n_sorted := PySem.W.mg_none_of X G z_sorted
  n_str := PySem.W.mg_none_of X G z_str
  c_FIGURES := PySem.W.mg_of X G g_FIGURES
section
variable {P : Program} {w : World} {K : PySem.W.Frag} {mg : Str → Option Value} {base : Heap} {A : Ad}
theorem ok_law_draw (T : Txt K mg A) : FnOk P w K mg base CX0 1 A.a_law_draw A.d_law_draw ["bag", "many"] spDraw := by
  refine T.F_law_draw.ok sc_law_draw (fun vs H Q E h => ?_) (fun cdv A outer s H vs Q E hr h => ?_)
  · obtain ⟨b, m, N, rfl, _⟩ := h
    rfl
  · obtain ⟨b, m, N, rfl, m0, m1, hN, ⟨x, y, z, hb, y0, y1, z0, z1⟩, q⟩ := h
    have hl : SqL K H b [.int x, .int y, .int z] := .inl (.inl hb)
    refine ⟨_, (pss_cons (ps_if (pt_cmpR op_gt (pe_ix (k_ix_list K) (pv 0) pe_int (fun _ _ => rfl)) pe_int (nomark _))
      (pss_cons (ps_set (i := 2) sc_law_draw.nd rfl (.inl rfl) (pe_op op_mod (pe_ix (k_ix_list K) (pv 0) pe_int (fun _ _ => rfl)) (pv 1)))
      (pss_cons (ps_asg (pe_op op_fdivW (pe_ix (k_ix_list K) (pv 0) pe_int (fun _ _ => rfl)) (pv 1)) (pg_sub (pv 0) pe_int set_list))
      (pss_one (ps_ret (pv 2)))))
      pss_nil)
      (pss_cons (ps_asg (pe_op op_add (pe_ix (k_ix_list K) (pv 0) pe_int (fun _ _ => rfl)) pe_int) (pg_sub (pv 0) pe_int set_list))
      (pss_cons (ps_set (i := 3) sc_law_draw.nd rfl (.inl rfl) (pe_op op_mod (pe_op op_powW (pe_op op_add (pe_ix (k_ix_list K) (pv 0) pe_int (fun _ _ => rfl)) (pe_op op_mulW pe_int (pe_ix (k_ix_list K) (pv 0) pe_int (fun _ _ => rfl)))) pe_int) pe_int))
      (pss_cons (ps_set (i := 3) sc_law_draw.nd rfl (.inl rfl) (pe_op op_mod (pe_op op_powW (pe_op op_add (pv 3) (pe_op op_mulW pe_int (pe_ix (k_ix_list K) (pv 0) pe_int (fun _ _ => rfl)))) pe_int) pe_int))
      (pss_one (ps_ret (pe_op op_mod (pe_op op_fdivW (pv 3) pe_int) (pv 1)))))))), ?_⟩
    refine ⟨.ref b, rfl, b, _, 0, .int x, rfl, rfl, hl, atI_nat (j := 0) rfl, x, 1, rfl, rfl, _, rfl, ite2 (fun e => ?_) (fun e => ?_)⟩
    · refine ⟨.ref b, rfl, b, _, 0, .int x, rfl, rfl, hl, atI_nat (j := 0) rfl, .int m, rfl, x, m, rfl, rfl, m0, ?_⟩
      refine ⟨.ref b, rfl, b, _, 0, .int x, rfl, rfl, hl, atI_nat (j := 0) rfl, .int m, rfl, x, m, rfl, rfl, div_ok m0 m1, ?_⟩
      refine ⟨.ref b, rfl, b, _, _, 0, rfl, rfl, hb, rfl, ?_⟩
      refine ⟨_, rfl, q _ _ .upd ⟨x / m, y, z, upd_same, y0, y1, z0, by omega⟩ (Int.emod_nonneg _ (by omega)) (Int.emod_lt_of_pos _ m0)⟩
    · refine ⟨.ref b, rfl, b, _, 2, .int z, rfl, rfl, hl, atI_nat (j := 2) rfl, z, 1, rfl, rfl, ?_⟩
      refine ⟨.ref b, rfl, b, _, _, 2, rfl, rfl, hb, rfl, ?_⟩
      generalize hH1 : upd H b _ = H1
      have hb1 : H1 b = some (.lst [.int x, .int y, .int (z + 1)]) := by rw [← hH1]; exact upd_same
      have hl1 : SqL K H1 b [.int x, .int y, .int (z + 1)] := .inl (.inl hb1)
      refine ⟨.ref b, rfl, b, _, 1, .int y, rfl, rfl, hl1, atI_nat (j := 1) rfl, .ref b, rfl, b, _, 2, .int (z + 1), rfl, rfl, hl1, atI_nat (j := 2) rfl, 67867967, z + 1, rfl, rfl, mul_ok (by decide) (by omega), y, 67867967 * (z + 1), rfl, rfl, _, 3, rfl, rfl, pow_ok (by omega) (by omega), _, _, rfl, rfl, (show (0 : Int) < 170141183460469231731687303715884105727 by decide), ?_⟩
      dsimp only
      generalize hm : (y + 67867967 * (z + 1)) ^ (3 : Int).toNat % 170141183460469231731687303715884105727 = m1
      have p0 : 0 ≤ m1 := by rw [← hm]; exact Int.emod_nonneg _ (by decide)
      have p1 : m1 < 170141183460469231731687303715884105727 := by rw [← hm]; exact Int.emod_lt_of_pos _ (by decide)
      refine ⟨_, rfl, .ref b, rfl, b, _, 2, .int (z + 1), rfl, rfl, hl1, atI_nat (j := 2) rfl, 49979687, z + 1, rfl, rfl, mul_ok (by decide) (by omega), m1, 49979687 * (z + 1), rfl, rfl, _, 3, rfl, rfl, pow_ok (by omega) (by omega), _, _, rfl, rfl, (show (0 : Int) < 162259276829213363391578010288127 by decide), ?_⟩
      refine ⟨_, rfl, _, 4096, rfl, rfl, div_ok (by decide) (by decide), .int m, rfl, _, m, rfl, rfl, m0, ?_⟩
      exact q _ _ (by rw [← hH1]; exact .upd) ⟨x, y, z + 1, hb1, y0, y1, by omega, by omega⟩ (Int.emod_nonneg _ (by omega)) (Int.emod_lt_of_pos _ m0)
theorem ok_law_cell_at (T : Txt K mg A) : FnOk P w K mg base CX0 1 A.a_law_cell_at A.d_law_cell_at ["script", "k"] (spCell K) := by
  refine T.F_law_cell_at.ok sc_law_cell_at (fun vs H Q E h => ?_) (fun cdv A outer s H vs Q E hr h => ?_)
  · obtain ⟨a, ns, k, rfl, _⟩ := h
    rfl
  · obtain ⟨a, ns, k, rfl, hS, hk, q⟩ := h
    refine ⟨_, (pss_cons (ps_if (pt_cmpR op_lt (pv 1) (pe_callB (k_len K) (by rfl) T.n_len PySem.boot_len (pa_cons (pv 0) pa_nil)) (nomark _))
      (pss_one (ps_ret (pe_ix (k_ix_list K) (pv 0) (pv 1) (fun _ _ => rfl))))
      pss_nil)
      (pss_one (ps_ret pe_int))), ?_⟩
    refine ⟨_, rfl, .ref a, rfl, a, _, rfl, .inl hS, k, _, rfl, rfl, _, rfl, ite2 (fun e => ?_) (fun e => ?_)⟩
    · obtain ⟨v, _, hv⟩ := at_map (xs := ns) V.int hk (by
        have := of_decide_eq_true e
        rw [List.length_map] at this
        exact this)
      exact ⟨.ref a, rfl, .int k, rfl, a, _, k, .int v, rfl, rfl, hS, hv, q v⟩
    · exact q 0
theorem ok_law_bag (T : Txt K mg A) : FnOk P w K mg base CX0 1 A.a_law_bag A.d_law_bag ["cell", "nth"] spBag := by
  refine T.F_law_bag.ok sc_law_bag (fun vs H Q E h => ?_) (fun cdv A outer s H vs Q E hr h => ?_)
  · obtain ⟨c, n, rfl, _⟩ := h
    rfl
  · obtain ⟨c, n, rfl, n0, n1, q⟩ := h
    refine ⟨_, (pss_one (ps_ret (pe_lst (pa_cons (pe_callB (call_max2 rfl) (by rfl) T.n_max (by decide +kernel) (pa_cons pe_int (pa_cons (pe_op op_sub (pv 0) (pe_op op_powW pe_int pe_int)) pa_nil))) (pa_cons (pe_op op_add (pe_op op_mod (pv 0) pe_int) (pe_op op_mulW pe_int (pv 1))) (pa_cons pe_int pa_nil)))))), ?_⟩
    refine ⟨.int c, rfl, 10, 18, rfl, rfl, ⟨by decide, by decide, by decide⟩, c, _, rfl, rfl, 0, _, rfl, .int c, rfl, c, 170141183460469231731687303715884105727, rfl, rfl, (show (0 : Int) < 170141183460469231731687303715884105727 by decide), .int n, rfl, 104395303, n, rfl, rfl, mul_ok (by decide) (by omega), _, _, rfl, rfl, (by show 3 ≤ sizeLine; decide), fun p hp => ?_⟩
    have e0 : 0 ≤ c % 170141183460469231731687303715884105727 := Int.emod_nonneg _ (by decide)
    have e1 : c % 170141183460469231731687303715884105727 < 170141183460469231731687303715884105727 := Int.emod_lt_of_pos _ (by decide)
    exact q _ _ hp (same_new hp) ⟨_, _, 0, upd_same, by omega, by omega, by omega, by omega⟩
theorem ok_law_signs (T : Txt K mg A) : FnOk P w K mg base CX0 1 A.a_law_signs A.d_law_signs [] spSigns := by
  refine T.F_law_signs.ok sc_law_signs (fun vs H Q E h => ?_) (fun cdv A outer s H vs Q E hr h => ?_)
  · obtain ⟨rfl, _⟩ := h
    rfl
  · obtain ⟨rfl, q⟩ := h
    refine ⟨_, (pss_cons (ps_set (i := 0) sc_law_signs.nd rfl (.inl rfl) pe_str)
      (pss_one (ps_ret (pe_op op_add_str (pe_op op_add_str (pe_op op_add_str (pe_op op_add_str pe_str (pe_upper (pv 0))) pe_str) (pv 0)) pe_str)))), ?_⟩
    refine ⟨_, rfl, ⟨_, rfl⟩, _, rfl, rfl, (by decide +kernel), _, _, rfl, rfl, (by decide +kernel), _, _, rfl, rfl, (by decide +kernel), _, rfl, _, _, rfl, rfl, (by decide +kernel), _, _, rfl, rfl, (by decide +kernel), ?_⟩
    have e : (((((" !\"#$&'()*+,-./0123456789:;<=>?@" : Str) ++ Txt.upper ("abcdefghijklmnopqrstuvwxyz" : Str)) ++ ("[\\]^_`" : Str)) ++ ("abcdefghijklmnopqrstuvwxyz" : Str)) ++ ("{|}~" : Str)) = lawSigns := by decide +kernel
    exact e ▸ q
theorem ok_law_text (T : Txt K mg A) : FnOk P w K mg base CX0 2 A.a_law_text A.d_law_text ["bag", "most"] spText := by
  have G_law_draw := ok_law_draw (P := P) (w := w) (base := base) T
  have G_law_signs := ok_law_signs (P := P) (w := w) (base := base) T
  refine T.F_law_text.ok sc_law_text (fun vs H Q E h => ?_) (fun cdv A outer s H vs Q E hr h => ?_)
  · obtain ⟨b, m, N, rfl, _⟩ := h
    rfl
  · obtain ⟨b, m, N, rfl, m0, m1, hN, hB, q⟩ := h
    refine ⟨_, (pss_cons (ps_set (i := 2) sc_law_text.nd rfl (.inl rfl) (pe_call G_law_draw (hr.mono (by decide)) (by rfl) T.g_law_draw T.F_law_draw.kp T.b_law_draw .nil pass0 (pa_cons (pv 0) (pa_cons pe_int pa_nil))))
      (pss_cons (ps_if (pt_cmpR op_lt (pv 2) pe_int (nomark _))
      (pss_cons (ps_set (i := 3) sc_law_text.nd rfl (.inl rfl) (pe_call G_law_draw (hr.mono (by decide)) (by rfl) T.g_law_draw T.F_law_draw.kp T.b_law_draw .nil pass0 (pa_cons (pv 0) (pa_cons (pe_ix (k_ix_list K) (pe_lst (pa_cons pe_int (pa_cons pe_int (pa_cons (pe_op op_powW pe_int pe_int) (pa_cons (pe_op op_powW pe_int pe_int) pa_nil))))) (pe_call G_law_draw (hr.mono (by decide)) (by rfl) T.g_law_draw T.F_law_draw.kp T.b_law_draw .nil pass0 (pa_cons (pv 0) (pa_cons pe_int pa_nil))) (fun _ _ => rfl)) pa_nil))))
      (pss_one (ps_ret (pe_slice sl_str (pe_callTy call_str_int (by rfl) T.n_str (by decide +kernel) (pa_cons (pe_op op_mulW (pv 3) (pe_ix (k_ix_list K) (pe_lst (pa_cons pe_int (pa_cons pe_int (pa_cons (pe_un un_neg pe_int) pa_nil)))) (pe_call G_law_draw (hr.mono (by decide)) (by rfl) T.g_law_draw T.F_law_draw.kp T.b_law_draw .nil pass0 (pa_cons (pv 0) (pa_cons pe_int pa_nil))) (fun _ _ => rfl))) pa_nil)) po_none (po_some (pv 1))))))
      pss_nil)
      (pss_cons (ps_if (pt_cmpR op_eq (pv 2) pe_int (nomark _))
      (pss_cons (ps_set (i := 4) sc_law_text.nd rfl (.inl rfl) (pe_lst (pa_cons pe_str (pa_cons pe_str (pa_cons pe_str (pa_cons pe_str (pa_cons pe_str (pa_cons pe_str (pa_cons pe_str (pa_cons pe_str (pa_cons pe_str (pa_cons pe_str (pa_cons pe_str (pa_cons pe_str (pa_cons pe_str (pa_cons pe_str (pa_cons pe_str (pa_cons pe_str pa_nil))))))))))))))))))
      (pss_one (ps_ret (pe_slice sl_str (pe_ix (k_ix_list K) (pv 4) (pe_call G_law_draw (hr.mono (by decide)) (by rfl) T.g_law_draw T.F_law_draw.kp T.b_law_draw .nil pass0 (pa_cons (pv 0) (pa_cons pe_int pa_nil))) (fun _ _ => rfl)) po_none (po_some (pv 1))))))
      pss_nil)
      (pss_cons (ps_if (pt_cmpR op_eq (pv 2) pe_int (nomark _))
      (pss_cons (ps_set (i := 5) sc_law_text.nd rfl (.inr rfl) (pe_lst (pa_cons pe_str (pa_cons pe_str (pa_cons pe_str (pa_cons pe_str (pa_cons pe_str (pa_cons pe_str (pa_cons pe_str (pa_cons pe_str (pa_cons pe_str (pa_cons pe_str (pa_cons pe_str (pa_cons pe_str (pa_cons pe_str (pa_cons pe_str (pa_cons pe_str pa_nil)))))))))))))))))
      (pss_one (ps_ret (pe_slice sl_str (pe_m1 PySem.F.slot_str_join PySem.F.type_str_join (k_mt_join K) pe_str (pe_lc (own := [("k", 7)]) (g := gName 7) (tt := tYes) rfl sc_law_text.nd (pi_range1 (by rfl) T.n_range (pa_cons (pe_op op_add pe_int (pe_call G_law_draw (hr.mono (by decide)) (by rfl) T.g_law_draw T.F_law_draw.kp T.b_law_draw .nil pass0 (pa_cons (pv 0) (pa_cons pe_int pa_nil)))) pa_nil)) (blkOk_by (own := [("k", 7)]) (N := N_law_text) (sc := defScope s_law_text) (by decide +kernel)) (fun _ _ _ _ _ => (pg_name (i := 7) sc_law_text.nd rfl (.inl rfl))) (fun _ _ _ _ _ => pts_nil) (fun _ _ _ _ _ => (pe_ix (k_ix_list K) (pv 5) (pe_call G_law_draw (hr.mono (by decide)) (by rfl) T.g_law_draw T.F_law_draw.kp T.b_law_draw .nil pass0 (pa_cons (pv 0) (pa_cons pe_int pa_nil))) (fun _ _ => rfl))))) po_none (po_some (pv 1))))))
      pss_nil)
      (pss_cons (ps_set (i := 5) sc_law_text.nd rfl (.inr rfl) (pe_ix (k_ix_list K) (pe_lst (pa_cons pe_str (pa_cons pe_str (pa_cons (pe_call0 G_law_signs (hr.mono (by decide)) (by rfl) T.g_law_signs T.F_law_signs.kp T.b_law_signs .nil pass0) pa_nil)))) (pe_op op_sub (pv 2) pe_int) (fun _ _ => rfl)))
      (pss_cons (ps_set (i := 6) sc_law_text.nd rfl (.inl rfl) (pe_ix (k_ix_list K) (pe_lst (pa_cons pe_int (pa_cons pe_int (pa_cons (pe_call G_law_draw (hr.mono (by decide)) (by rfl) T.g_law_draw T.F_law_draw.kp T.b_law_draw .nil pass0 (pa_cons (pv 0) (pa_cons (pe_op op_add (pv 1) pe_int) pa_nil))) pa_nil)))) (pe_call G_law_draw (hr.mono (by decide)) (by rfl) T.g_law_draw T.F_law_draw.kp T.b_law_draw .nil pass0 (pa_cons (pv 0) (pa_cons pe_int pa_nil))) (fun _ _ => rfl)))
      (pss_one (ps_ret (pe_m1 PySem.F.slot_str_join PySem.F.type_str_join (k_mt_join K) pe_str (pe_lc (own := [("k", 7)]) (g := gName 7) (tt := tYes) rfl sc_law_text.nd (pi_range1 (by rfl) T.n_range (pa_cons (pe_callB (call_min2 rfl) (by rfl) T.n_min (by decide +kernel) (pa_cons (pv 6) (pa_cons (pv 1) pa_nil))) pa_nil)) (blkOk_by (own := [("k", 7)]) (N := N_law_text) (sc := defScope s_law_text) (by decide +kernel)) (fun _ _ _ _ _ => (pg_name (i := 7) sc_law_text.nd rfl (.inl rfl))) (fun _ _ _ _ _ => pts_nil) (fun _ _ _ _ _ => (pe_ix ix_str (pv 5) (pe_call G_law_draw (hr.mono (by decide)) (by rfl) T.g_law_draw T.F_law_draw.kp T.b_law_draw .nil pass0 (pa_cons (pv 0) (pa_cons (pe_callB call_len_str (by rfl) T.n_len PySem.boot_len (pa_cons (pv 5) pa_nil)) pa_nil))) (fun _ _ => rfl))))))))))))), ?_⟩
    refine rd_draw (N := N) rfl (fun R h => h) (by decide) (by decide) (by omega) hB fun H1 lot c1 B1 l0 l1 => ?_
    refine ⟨_, rfl, _, _, rfl, rfl, _, rfl, ite2 (fun e => ?_) (fun e => ?_)⟩
    · -- a number's own text
      refine ⟨_, rfl, ?_⟩
      refine rd_menu (xs := [.int 10, .int 200, .int (10 ^ (20 : Int).toNat), .int (10 ^ (40 : Int).toNat)]) (N := N + 1) (fun R h => ⟨_, _, rfl, rfl, ⟨by decide, by decide, by decide⟩, _, _, rfl, rfl, ⟨by decide, by decide, by decide⟩, h⟩) rfl rfl (by decide) (by decide) (by omega) B1 fun H2 v hv c2 B2 => ?_
      obtain ⟨n, rfl, n0, n1⟩ : ∃ n : Int, v = .int n ∧ 0 < n ∧ n ≤ 10 ^ 40 := by
        simp only [List.mem_cons, List.not_mem_nil, or_false] at hv
        rcases hv with rfl | rfl | rfl | rfl <;> exact ⟨_, rfl, by decide, by decide⟩
      refine ⟨b, n, N + 2, rfl, n0, by omega, by omega, B2, fun H3 r c3 B3 r0 r1 => ?_⟩
      refine ⟨_, rfl, ?_⟩
      refine rd_menu (xs := [.int 1, .int 1, .int (-1)]) (N := N + 3) (fun R h => ⟨_, rfl, h⟩) rfl rfl (by decide) (by decide) (by omega) B3 fun H4 v hv c4 B4 => ?_
      obtain ⟨k, rfl, k0⟩ : ∃ k : Int, v = .int k ∧ (k = 1 ∨ k = -1) := by
        simp only [List.mem_cons, List.not_mem_nil, or_false] at hv
        rcases hv with rfl | rfl | rfl <;> exact ⟨_, rfl, by decide⟩
      have hz : (r * k).natAbs < 2 ^ 200 := by
        rcases k0 with rfl | rfl <;> omega
      refine ⟨_, _, rfl, rfl, mul_ok (by omega) (by omega), _, rfl, Nat.lt_of_lt_of_le (PySem.Flt.log2_lt_of (by decide) hz) (by decide), _, rfl, _, rfl, _, rfl, PySem.int_text_fits (Nat.lt_of_lt_of_le (PySem.Flt.log2_lt_of (by decide) hz) (by decide)), ?_⟩
      exact q _ _ (((c1.trans c2).trans c3).trans c4) (B4.mono (by omega)) (len_cut _ m0) (worth_cut (worth_int _) m0)
    · refine ⟨_, rfl, rfl, _, rfl, ite2 (fun e2 => ?_) (fun e2 => ?_)⟩
      · -- near ones
        refine ⟨Evl.sz_of (by decide), fun p hp => ?_⟩
        generalize hxs : HO.lst _ = o
        have hp1 : (upd H1 p o) p = some o := upd_same
        have bp := B1.ne hp
        refine ⟨_, rfl, ?_⟩
        refine rd_draw (N := N + 1) rfl (fun R h => h) (by decide) (by decide) (by omega) (B1.new hp) fun H2 r c2 B2 r0 r1 => ?_
        have hp2 := c2 _ _ bp.symm hp1
        rw [← hxs] at hp2
        obtain ⟨v, hv, ev⟩ := at_lt (xs := ([.str "07", .str "-0", .str "+1", .str "1a", .str "-", .str "--5", .str "+-3x", .str "00", .str "1 ", .str "1.0", .str "-01", .str "-5-", .str "+", .str "0x1", .str "- 5", .str "1e3"] : List V)) r0 r1
        obtain ⟨x, rfl, hx, hl⟩ : ∃ x : Str, v = .str x ∧ WorthS x ∧ x.length ≤ 9 := by
          have key : ∀ v ∈ ([.str "07", .str "-0", .str "+1", .str "1a", .str "-", .str "--5", .str "+-3x", .str "00", .str "1 ", .str "1.0", .str "-01", .str "-5-", .str "+", .str "0x1", .str "- 5", .str "1e3"] : List V), ∃ x : Str, v = .str x ∧ WorthS x ∧ x.length ≤ 9 := by
            intro v hv
            simp only [List.mem_cons, List.not_mem_nil, or_false] at hv
            rcases hv with rfl | rfl | rfl | rfl | rfl | rfl | rfl | rfl | rfl | rfl | rfl | rfl | rfl | rfl | rfl | rfl <;> exact ⟨_, rfl, by decide +kernel, by decide +kernel⟩
          exact key v hv
        refine ⟨p, _, r, _, rfl, rfl, .inl (.inl hp2), ev, ?_⟩
        refine ⟨_, rfl, _, rfl, x, rfl, Evl.sz_of (by omega), ?_⟩
        exact q _ _ ((c1.trans (.new hp)).trans c2) (B2.mono (by omega)) (len_cut _ m0) (worth_cut hx m0)
      · refine ⟨_, rfl, rfl, _, rfl, ite2 (fun e3 => ?_) (fun e3 => ?_)⟩
        · -- joints
          refine ⟨Evl.sz_of (by decide), fun p hp => ?_⟩
          generalize hxs : HO.lst _ = o
          have hp1 : (upd H1 p o) p = some o := upd_same
          have bp := B1.ne hp
          have cp : Chg b H1 (upd H1 p o) := .new hp
          refine ⟨⟨_, rfl⟩, ?_⟩
          refine rd_draw (N := N + 1) rfl (fun R h => h) (by decide) (by decide) (by omega) (B1.new hp) fun H2 n c2 B2 n0 n1 => ?_
          refine ⟨_, _, rfl, rfl, _, rfl, by omega, by omega, fun D hD => ?_⟩
          have hp2 := c2 _ _ bp.symm hp1
          rw [← hxs] at hp2
          refine lc_draws (N := N + 2) (c := 1) (n := (1 + n).toNat) (fun v => ∃ x : Str, v = .str x ∧ WorthS x ∧ x.length ≤ 9) (by omega) hD B2 (fun H3 M k c3 B3 hM R q3 => ?_) (by decide) (fun H3 ys yl hy c3 B3 e3 => ?_)
          · refine ⟨_, rfl, ?_⟩
            refine rd_draw (N := M) rfl (fun R h => h) (by decide) (by decide) (by omega) B3 fun H4 r c4 B4 r0 r1 => ?_
            obtain ⟨v, hv, ev⟩ := at_lt (xs := ([.str "; ", .str ":", .str "=", .str ",", .str "|", .str "|  ", .str ")", .str "(", .str "\"", .str "\"\"", .str ")=\"", .str "; write 1", .str "=\"", .str "x", .str " "] : List V)) r0 r1
            have key : ∀ v ∈ ([.str "; ", .str ":", .str "=", .str ",", .str "|", .str "|  ", .str ")", .str "(", .str "\"", .str "\"\"", .str ")=\"", .str "; write 1", .str "=\"", .str "x", .str " "] : List V), ∃ x : Str, v = .str x ∧ WorthS x ∧ x.length ≤ 9 := by
              intro v hv
              simp only [List.mem_cons, List.not_mem_nil, or_false] at hv
              rcases hv with rfl | rfl | rfl | rfl | rfl | rfl | rfl | rfl | rfl | rfl | rfl | rfl | rfl | rfl | rfl <;> exact ⟨_, rfl, by decide +kernel, by decide +kernel⟩
            exact ⟨p, _, r, _, rfl, rfl, .inl (.inl (c4 _ _ bp.symm (c3 _ _ bp.symm hp2))), ev, q3 _ _ c4 B4 (key v hv)⟩
          · obtain ⟨zs, rfl, hz⟩ := strs_of hy
            have hs := sum_le (c := 9) fun z h => (hz z h).2
            have he : (Str.ofString "").length = 0 := by decide +kernel
            rw [List.length_map] at yl
            refine ⟨_, D, zs, rfl, rfl, .inl (.inl (.inl e3)), (by rw [he]; omega), ?_⟩
            have hlen : (Txt.join (Str.ofString "") zs).length ≤ 9 * zs.length := by
              refine Nat.le_trans (Nat.le_of_eq ?_) hs
              rw [len_tl, tl_join0 empty_tl, List.length_flatten, List.map_map]
              exact congrArg List.sum (List.map_congr_left fun z _ => (len_tl z).symm)
            refine ⟨_, rfl, _, rfl, _, rfl, Evl.sz_of (by omega), ?_⟩
            exact q _ _ (((c1.trans cp).trans c2).trans c3) (B3.mono (by omega)) (len_cut _ m0) (worth_cut (worth_join empty_tl fun z h => (hz z h).1) m0)
        · -- of few signs, of any
          have l3 : 3 ≤ lot ∧ lot ≤ 5 := by
            have h1 := of_decide_eq_false (Bool.eq_false_iff.mpr e)
            have h2 := of_decide_eq_false (Bool.eq_false_iff.mpr e2)
            have h3 := of_decide_eq_false (Bool.eq_false_iff.mpr e3)
            have h2' : lot ≠ 2 := fun z => h2 (congrArg V.int z)
            have h3' : lot ≠ 6 := fun z => h3 (congrArg V.int z)
            omega
          refine ⟨rfl, Evl.sz_of (by decide), fun p hp => ?_⟩
          have cp : Chg b H1 (upd H1 p (.lst [.str "0123456789+-a ", .str "ab", .str lawSigns])) := .new hp
          have bp := B1.ne hp
          refine ⟨_, rfl, _, _, rfl, rfl, ?_⟩
          obtain ⟨v, hv, ev⟩ := at_lt (xs := ([.str "0123456789+-a ", .str "ab", .str lawSigns] : List V)) (r := lot - 3) (by omega) (by show lot - 3 < 3; omega)
          obtain ⟨x, rfl, hx, hl⟩ : ∃ x : Str, v = .str x ∧ WorthS x ∧ 0 < x.length ∧ x.length ≤ 100 := by
            simp only [List.mem_cons, List.not_mem_nil, or_false] at hv
            rcases hv with rfl | rfl | rfl <;> exact ⟨_, rfl, by decide +kernel, by decide +kernel, by decide +kernel⟩
          refine ⟨p, _, _, _, rfl, rfl, .inl (.inl upd_same), ev, ?_⟩
          refine rd_draw (N := N + 1) rfl (fun R h => ⟨_, rfl, _, _, rfl, rfl, h⟩) (by omega) (by omega) (by omega) (B1.new hp) fun H2 r c2 B2 r0 r1 => ?_
          refine ⟨Evl.sz_of (by show 3 ≤ 100000; decide), fun p2 hp2 => ?_⟩
          have bp2 := B2.ne hp2
          refine rd_draw (N := N + 2) rfl (fun R h => h) (by decide) (by decide) (by omega) (B2.new hp2) fun H3 r3 c3 B3 r30 r31 => ?_
          obtain ⟨v, hv, ev⟩ := at_lt (xs := ([.int 1, .int 2, .int r] : List V)) r30 r31
          obtain ⟨k, rfl, k0⟩ : ∃ k : Int, v = .int k ∧ 0 ≤ k := by
            simp only [List.mem_cons, List.not_mem_nil, or_false] at hv
            rcases hv with rfl | rfl | rfl
            · exact ⟨1, rfl, by decide⟩
            · exact ⟨2, rfl, by decide⟩
            · exact ⟨r, rfl, r0⟩
          have hp23 : H3 p2 = some (.lst [.int 1, .int 2, .int r]) := c3 _ _ bp2.symm upd_same
          refine ⟨p2, _, _, _, rfl, rfl, .inl (.inl hp23), ev, ?_⟩
          refine ⟨⟨_, rfl⟩, ?_⟩
          refine ⟨_, rfl, _, rfl, _, _, rfl, ?_⟩
          obtain ⟨n, hn, n0, nm⟩ : ∃ n, n = (if m < k then m else k) ∧ 0 ≤ n ∧ n ≤ m := ⟨_, rfl, by split <;> omega, by split <;> omega⟩
          rw [← hn]
          refine ⟨_, rfl, by omega, by omega, fun D hD => ?_⟩
          refine lc_draws (N := N + 3) (c := 1) (n := n.toNat) (fun v => ∃ y : Str, v = .str y ∧ WorthS y ∧ y.length = 1) (by omega) hD B3 (fun H4 M kk c4 B4 hM R q4 => ?_) (by decide) (fun H4 ys yl hy c4 B4 e4 => ?_)
          · refine ⟨_, rfl, ?_⟩
            refine rd_draw (m := x.length) (N := M) rfl (fun R h => ⟨_, rfl, x, rfl, Evl.sz_of (by omega), h⟩) (by omega) (by omega) (by omega) B4 fun H5 j c5 B5 j0 j1 => ?_
            obtain ⟨c, hc, ec⟩ := at_lt (xs := tl x) j0 (by rw [← len_tl]; exact j1)
            exact ⟨x, j, c, rfl, rfl, Evl.sz_of (by omega), ec, q4 _ _ c5 B5 ⟨_, rfl, worth_sign (hx c hc), rfl⟩⟩
          · obtain ⟨zs, rfl, hz⟩ := strs_of hy
            have hs := sum_le (c := 1) fun z h => Nat.le_of_eq (hz z h).2
            have he : (Str.ofString "").length = 0 := by decide +kernel
            rw [List.length_map] at yl
            refine ⟨_, D, zs, rfl, rfl, .inl (.inl (.inl e4)), (by rw [he]; omega), ?_⟩
            have hlen := len_join1 (e := Str.ofString "") empty_tl fun z h => (hz z h).2
            exact q _ _ ((((c1.trans cp).trans c2).trans ((Chg.new hp2).trans c3)).trans c4) (B4.mono (by omega)) (by omega) (worth_join empty_tl fun z h => (hz z h).1)
theorem ok_law_key (T : Txt K mg A) : FnOk P w K mg base CX0 3 A.a_law_key A.d_law_key ["bag"] spKey := by
  have G_law_draw := ok_law_draw (P := P) (w := w) (base := base) T
  have G_law_text := ok_law_text (P := P) (w := w) (base := base) T
  refine T.F_law_key.ok sc_law_key (fun vs H Q E h => ?_) (fun cdv A outer s H vs Q E hr h => ?_)
  · obtain ⟨b, N, rfl, _⟩ := h
    rfl
  · obtain ⟨b, N, rfl, hN, hB, q⟩ := h
    refine ⟨_, (pss_cons (ps_set (i := 1) sc_law_key.nd rfl (.inl rfl) (pe_call G_law_text (hr.mono (by decide)) (by rfl) T.g_law_text T.F_law_text.kp T.b_law_text .nil pass0 (pa_cons (pv 0) (pa_cons (pe_ix (k_ix_list K) (pe_lst (pa_cons pe_int (pa_cons pe_int (pa_cons pe_int pa_nil)))) (pe_call G_law_draw (hr.mono (by decide)) (by rfl) T.g_law_draw T.F_law_draw.kp T.b_law_draw .nil pass0 (pa_cons (pv 0) (pa_cons pe_int pa_nil))) (fun _ _ => rfl)) pa_nil))))
      (pss_one (ps_ret (pe_ifExp (pt_cmpR op_ne (pv 1) pe_str (nomark _)) (pv 1) pe_str)))), ?_⟩
    refine ⟨_, rfl, ?_⟩
    refine rd_menu (xs := [.int 3, .int 8, .int 40]) (N := N) (fun R h => h) rfl rfl (by decide) (by decide) (by omega) hB fun H1 v hv c1 B1 => ?_
    obtain ⟨m, rfl, m0, m1⟩ : ∃ k : Int, v = .int k ∧ 1 ≤ k ∧ k ≤ 40 := by
      simp only [List.mem_cons, List.not_mem_nil, or_false] at hv
      rcases hv with rfl | rfl | rfl <;> exact ⟨_, rfl, by decide, by decide⟩
    refine ⟨b, m, N + 1, rfl, by omega, by omega, by omega, B1, fun H2 x c2 B2 hl hx => ?_⟩
    have B3 := B2.mono (M := N + 2001) (by omega)
    refine ⟨_, rfl, rfl, _, rfl, ite2 (fun e => ?_) (fun e => ?_)⟩
    · refine ⟨_, rfl, q _ x (c1.trans c2) B3 ⟨?_, by omega, hx⟩⟩
      have h1 : x ≠ Str.ofString "" := by
        intro z
        subst z
        exact absurd e (by decide)
      have h2 : x.length ≠ 0 := by
        intro z
        refine h1 (tl_inj ?_)
        rw [empty_tl]
        exact List.length_eq_zero_iff.mp (by rw [← len_tl]; exact z)
      omega
    · exact q _ _ (c1.trans c2) B3 ⟨by decide +kernel, by decide +kernel, by decide +kernel⟩
theorem ok_signs_ahead (T : Txt K mg A) : FnOk P w K mg base CX0 1 A.a_signs_ahead A.d_signs_ahead ["worth", "some"] spAhead := by
  refine T.F_signs_ahead.ok sc_signs_ahead (fun vs H Q E h => ?_) (fun cdv A outer s H vs Q E hr h => ?_)
  · obtain ⟨x, z, rfl, _⟩ := h
    rfl
  · obtain ⟨x, z, rfl, hl, q⟩ := h
    refine ⟨_, (pss_cons (ps_set (i := 2) sc_signs_ahead.nd rfl (.inl rfl) pe_int)
      (pss_cons (ps_while PassesOwn.never (PW.pt (pw_and (pt_cmpR op_lt (pv 2) (pe_callB call_len_str (by rfl) T.n_len PySem.boot_len (pa_cons (pv 0) pa_nil)) (nomark _)) (pw_and1 (pt_cmpR op_inS (pe_ix ix_str (pv 0) (pv 2) (fun _ _ => rfl)) (pv 1) (by rfl)))))
      (pss_one (ps_aug (i := 2) sc_signs_ahead.nd rfl (.inl rfl) pe_int ip_add)))
      (pss_one (ps_ret (pv 2))))), ?_⟩
    have hx := len_tl x
    refine ⟨fun m σ H' => ∃ pre rest, tl x = pre ++ rest ∧ (∀ c ∈ pre, decide (c ∈ tl z) = true) ∧ m = rest.length ∧ H' = H ∧ σ = [some (.str x), some (.str z), some (.int (pre.length : Int))], ⟨_, [], tl x, rfl, (fun _ h => nomatch h), rfl, rfl, rfl⟩, ?_⟩
    rintro m σ H' ⟨pre, rest, e, hp, rfl, rfl, rfl⟩
    refine ⟨_, rfl, _, rfl, x, rfl, Evl.sz_of hl, _, _, rfl, rfl, _, rfl, ?_⟩
    cases rest with
    | nil =>
      have hle : ¬ ((pre.length : Int) < (x.length : Int)) := by rw [hx, e, List.append_nil]; omega
      rw [decide_eq_false hle]
      refine iteF (iteF ⟨_, rfl, ?_⟩)
      have e2 := (takeWhile_pre (p := fun c => decide (c ∈ tl z)) hp (.inl rfl)).1
      unfold aheadL at q
      rw [e, e2] at q
      exact q
    | cons c r =>
      have hlt : (pre.length : Int) < (x.length : Int) := by rw [hx, e, List.length_append, List.length_cons]; omega
      rw [decide_eq_true hlt]
      have hc : atI (tl x) (pre.length : Int) = some c := atI_nat (by rw [e, List.getElem?_append_right (Nat.le_refl _), Nat.sub_self]; rfl)
      refine iteT ⟨_, rfl, _, rfl, x, _, c, rfl, rfl, Evl.sz_of hl, hc, _, rfl, c, z, rfl, rfl, _, rfl, ?_⟩
      by_cases hz : c ∈ tl z
      · rw [decide_eq_true hz]
        refine iteT ⟨_, fun σ' H' h => h, ?_⟩
        refine ⟨_, rfl, _, _, rfl, rfl, r.length, Nat.lt_succ_self _, pre ++ [c], r, by rw [e]; simp, fun d hd => ?_, rfl, rfl, ?_⟩
        · rcases List.mem_append.mp hd with hd | hd
          · exact hp d hd
          · rw [List.mem_singleton.mp hd]; exact decide_eq_true hz
        · rw [List.length_append]
          rfl
      · rw [decide_eq_false hz]
        refine iteF ⟨_, rfl, ?_⟩
        have e2 := (takeWhile_pre (p := fun c => decide (c ∈ tl z)) hp (.inr ⟨c, r, rfl, decide_eq_false hz⟩)).1
        unfold aheadL at q
        rw [e, e2] at q
        exact q
theorem ok_number_of (T : Txt K mg A) : FnOk P w K mg base CX0 2 A.a_number_of A.d_number_of ["worth"] spNumberOf := by
  have G_signs_ahead := ok_signs_ahead (P := P) (w := w) (base := base) T
  refine T.F_number_of.ok sc_number_of (fun vs H Q E h => ?_) (fun cdv A outer s H vs Q E hr h => ?_)
  · obtain ⟨x, rfl, _⟩ := h
    rfl
  · obtain ⟨x, rfl, hl, q⟩ := h
    refine ⟨_, (pss_cons (ps_set (i := 1) sc_number_of.nd rfl (.inl rfl) (pe_call G_signs_ahead (hr.mono (by decide)) (by rfl) T.g_signs_ahead T.F_signs_ahead.kp T.b_signs_ahead .nil pass0 (pa_cons (pv 0) (pa_cons pe_str pa_nil))))
      (pss_cons (ps_set (i := 2) sc_number_of.nd rfl (.inl rfl) (pe_slice sl_str (pv 0) (po_some (pv 1)) (po_some (pe_op op_add (pv 1) (pe_call G_signs_ahead (hr.mono (by decide)) (by rfl) T.g_signs_ahead T.F_signs_ahead.kp T.b_signs_ahead .nil pass0 (pa_cons (pe_slice sl_str (pv 0) (po_some (pv 1)) po_none) (pa_cons (pe_glob (v := .str (Str.ofString "0123456789")) rfl T.c_FIGURES ⟨_, rfl⟩) pa_nil)))))))
      (pss_cons (ps_set (i := 3) sc_number_of.nd rfl (.inl rfl) (pe_ifExp (pt_cmpR op_ne (pv 2) pe_str (nomark _)) (pe_callTy call_int_str (by rfl) T.n_int (by decide +kernel) (pa_cons (pv 2) pa_nil)) pe_int))
      (pss_one (ps_ret (pe_ifExp (pt_cmpR op_eq (pe_op op_mod (pe_m1 PySem.F.slot_str_count PySem.F.type_str_count mt_count (pe_slice sl_str (pv 0) po_none (po_some (pv 1))) pe_str) pe_int) pe_int (nomark _)) (pe_op op_sub pe_int (pv 3)) (pv 3))))))), ?_⟩
    have hx := len_tl x
    have em := ahead_marks (tl x)
    have dw : (tl x).drop (marksOf (tl x)).length = (tl x).dropWhile isMark := by
      have h1 := List.takeWhile_append_dropWhile (p := isMark) (l := tl x)
      have h2 := congrArg (List.drop (marksOf (tl x)).length) h1
      rw [show List.takeWhile isMark (tl x) = marksOf (tl x) from rfl, List.drop_left] at h2
      exact h2.symm
    have tw : (tl x).take (marksOf (tl x)).length = marksOf (tl x) := by
      have h1 := List.takeWhile_append_dropWhile (p := isMark) (l := tl x)
      have h2 := congrArg (List.take (marksOf (tl x)).length) h1
      rw [show List.takeWhile isMark (tl x) = marksOf (tl x) from rfl, List.take_left] at h2
      exact h2.symm
    refine ⟨_, rfl, x, _, rfl, Nat.le_trans hl (by decide), ?_⟩
    refine ⟨_, rfl, _, rfl, _, rfl, _, rfl, ?_⟩
    refine ⟨_, rfl, _, rfl, _, rfl, x, rfl, Evl.sz_of (by omega), _, _, rfl, ?_, ?_⟩
    · exact Nat.le_trans (cutS_length x _ _) (by omega)
    rw [em, cut_from, dw, ahead_figs]
    refine ⟨_, _, rfl, rfl, _, rfl, x, rfl, Evl.sz_of (by omega), ?_⟩
    have ef : tl (cutS x (some ((marksOf (tl x)).length : Int)) (some (((marksOf (tl x)).length : Int) + (((tl x).dropWhile isMark).takeWhile isFig).length))) = figsOf (tl x) := by
      rw [show (((marksOf (tl x)).length : Int) + (((tl x).dropWhile isMark).takeWhile isFig).length) = (((marksOf (tl x)).length + (((tl x).dropWhile isMark).takeWhile isFig).length : Nat) : Int) by omega, cut_mid, dw, Nat.add_sub_cancel_left]
      have h1 := List.takeWhile_append_dropWhile (p := isFig) (l := (tl x).dropWhile isMark)
      have h2 := congrArg (List.take (((tl x).dropWhile isMark).takeWhile isFig).length) h1
      rw [List.take_left] at h2
      exact h2.symm
    generalize hf : cutS x _ _ = f
    rw [hf] at ef
    have hfl : f.length ≤ 640 := by rw [← hf]; exact Nat.le_trans (cutS_length x _ _) hl
    have hfd : PySem.NumText.AllDigits (tl f) := by
      rw [ef]
      exact fun c hc => isFig_iff.mp (mem_takeWhile hc)
    refine ⟨_, rfl, rfl, _, rfl, ?_⟩
    have last : ∀ n : Int, n = (PySem.NumText.digitsVal (figsOf (tl x)) : Int) → tSeq (tAsg (tC (.int n)) (gName 3)) (tRet (tIf (tTest (tOp rEq (tOp (rI (fun _ j => 0 < j) fun i j => .int (i % j)) (tM1 (fun x xs H Q => ∃ a b, x = V.str a ∧ xs = [V.str b] ∧ Q (.int (Txt.count a b)) H) (tSl rSlS (tVar 0) tNoPart (tPart (tVar 1))) (tC (.str "-"))) (tC (.int 2))) (tC (.int 1)))) (tOp (rI0 fun i j => .int (i - j)) (tC (.int 0)) (tVar 3)) (tVar 3)))
        { nx := fun _ H' => Q .non H', rt := Q } [some (.str x), some (.int ((marksOf (tl x)).length : Int)), some (.str f), none] H := by
      intro n hn
      refine ⟨_, rfl, _, rfl, _, rfl, x, rfl, Evl.sz_of (by omega), ⟨_, rfl⟩, _, _, rfl, rfl, _, _, rfl, rfl, (show (0 : Int) < 2 by decide), rfl, _, rfl, ?_⟩
      have ec : Txt.count (cutS x none (some ((marksOf (tl x)).length : Int))) (Str.ofString "-") = ((marksOf (tl x)).count 45 : Int) := by
        rw [show Str.ofString "-" = ⟨#[45]⟩ by decide +kernel, count_one, cut_toN, tw]
      rw [ec]
      refine ite2 (fun e => ?_) (fun e => ?_)
      · have e2 : (marksOf (tl x)).count 45 % 2 = 1 := by
          have := V.int.inj (of_decide_eq_true e)
          omega
        refine ⟨_, rfl, _, _, rfl, rfl, ?_⟩
        have er : numS x = 0 - n := by unfold numS numL; rw [if_pos e2, hn]
        rw [er] at q
        exact q
      · have e2 : ¬ (marksOf (tl x)).count 45 % 2 = 1 := by
          intro z
          refine e (decide_eq_true (congrArg V.int ?_))
          show ((marksOf (tl x)).count 45 : Int) % 2 = 1
          omega
        refine ⟨_, rfl, ?_⟩
        have er : numS x = n := by unfold numS numL; rw [if_neg e2, hn]
        rw [er] at q
        exact q
    refine ite2 (fun e => ?_) (fun e => ?_)
    · have hne : tl f ≠ [] := by
        intro z
        have : f = Str.ofString "" := tl_inj (by rw [z, empty_tl])
        subst this
        exact absurd e (by decide)
      refine ⟨_, rfl, f, _, rfl, PySem.intText_digits hfd hne (by omega), hfl, ?_⟩
      exact last _ (by rw [← ef])
    · have hz : f = Str.ofString "" := by
        refine Decidable.byContradiction fun z => e ?_
        rw [decide_eq_false (fun y => z (V.str.inj y))]
        rfl
      refine last 0 ?_
      rw [← ef, hz, empty_tl]
      rfl
theorem ok_is_number_text (T : Txt K mg A) : FnOk P w K mg base CX0 2 A.a_is_number_text A.d_is_number_text ["worth"] spIsNumber := by
  have G_signs_ahead := ok_signs_ahead (P := P) (w := w) (base := base) T
  refine T.F_is_number_text.ok sc_is_number_text (fun vs H Q E h => ?_) (fun cdv A outer s H vs Q E hr h => ?_)
  · obtain ⟨x, rfl, _⟩ := h
    rfl
  · obtain ⟨x, rfl, hl, q⟩ := h
    refine ⟨_, (pss_cons (ps_set (i := 1) sc_is_number_text.nd rfl (.inl rfl) (pe_ifExp (pt_cmpR op_eq (pe_slice sl_str (pv 0) po_none (po_some pe_int)) pe_str (nomark _)) (pe_slice sl_str (pv 0) (po_some pe_int) po_none) (pv 0)))
      (pss_cons (ps_if (PW.pt (pw_or (pt_cmpR op_eq (pv 1) pe_str (nomark _)) (pw_or1 (pt_cmpR op_lt (pe_call G_signs_ahead (hr.mono (by decide)) (by rfl) T.g_signs_ahead T.F_signs_ahead.kp T.b_signs_ahead .nil pass0 (pa_cons (pv 1) (pa_cons (pe_glob (v := .str (Str.ofString "0123456789")) rfl T.c_FIGURES ⟨_, rfl⟩) pa_nil))) (pe_callB call_len_str (by rfl) T.n_len PySem.boot_len (pa_cons (pv 1) pa_nil)) (nomark _)))))
      (pss_one (ps_ret pe_bl))
      pss_nil)
      (pss_one (ps_ret (pe_or (pe_cmpR op_eq (pv 0) pe_str (nomark _)) (pe_one (pe_cmpR op_ne (pe_ix ix_str (pv 1) pe_int (fun _ _ => rfl)) pe_str (nomark _)))))))), ?_⟩
    have rest : ∀ f : Str, f.length ≤ 100000 → tl f = (if (tl x).take 1 = [45] then (tl x).drop 1 else tl x) →
        tIfS (tOr (tTest (tOp rEq (tVar 1) (tC (.str "")))) (tTest (tOp (rI0 fun i j => .bl (decide (i < j))) (tCall spAhead [] E0 (tCons (tVar 1) (tCons (tC (.str "0123456789")) tNil))) (tCB (fun xs H Q => ∃ z, xs = [V.str z] ∧ z.length ≤ sizeLine ∧ Q (V.int z.length) H) (tCons (tVar 1) tNil)))))
          (tRet (tC (.bl false))) tNext { nx := fun σ H => tRet (tOrV (tOp rEq (tVar 0) (tC (.str "0"))) (tOp rNe (tOp rIxS (tVar 1) (tC (.int 0))) (tC (.str "0")))) { nx := fun _ H' => Q .non H', rt := Q } σ H, rt := Q } [some (.str x), some (.str f)] H := by
      intro f hf ef
      have hfl := len_tl f
      refine ⟨_, rfl, rfl, _, rfl, ite2 (fun e => ?_) (fun e => ?_)⟩
      · have e1 : f = Str.ofString "" := V.str.inj (of_decide_eq_true e)
        refine iteT ?_
        have er : isNumS x = false := by
          unfold isNumS isNumL
          rw [← ef, e1, empty_tl]
          rfl
        rw [er] at q
        exact q
      · have hne : tl f ≠ [] := by
          intro z
          have : f = Str.ofString "" := tl_inj (by rw [z, empty_tl])
          subst this
          exact e (decide_eq_true rfl)
        refine ⟨_, rfl, f, _, rfl, hf, ?_⟩
        rw [ahead_figs]
        refine ⟨_, rfl, f, rfl, Evl.sz_of hf, _, _, rfl, rfl, _, rfl, ite2 (fun e2 => ?_) (fun e2 => ?_)⟩
        · have e3 : ((tl f).takeWhile isFig).length < (tl f).length := by
            have := of_decide_eq_true e2
            omega
          have er : isNumS x = false := by
            unfold isNumS isNumL isNumF
            rw [← ef, if_pos (.inr e3)]
          rw [er] at q
          exact q
        · have e3 : ¬ ((tl f).takeWhile isFig).length < (tl f).length := by
            have := of_decide_eq_false (Bool.eq_false_iff.mpr e2)
            omega
          obtain ⟨c, r, ec⟩ : ∃ c r, tl f = c :: r := by
            cases h : tl f with
            | nil => exact absurd h hne
            | cons c r => exact ⟨c, r, rfl⟩
          have er : isNumS x = (tl x == [48] || !((tl f).head? == some 48)) := by
            unfold isNumS isNumL isNumF
            rw [← ef, if_neg (fun z => z.elim hne e3)]
          have hd : decide (V.str x = V.str (Str.ofString "0")) = (tl x == [48]) := by
            rw [Bool.eq_iff_iff, decide_eq_true_eq, beq_iff_eq]
            exact ⟨fun z => by rw [V.str.inj z]; decide +kernel, fun z => congrArg V.str (tl_inj (by rw [z]; decide +kernel))⟩
          refine ⟨_, rfl, rfl, _, rfl, ?_⟩
          rw [hd]
          refine ite2 (fun e4 => ?_) (fun e4 => ?_)
          · rw [er, e4] at q
            exact q
          · refine ⟨_, rfl, f, 0, c, rfl, rfl, Evl.sz_of hf, atI_nat (j := 0) (by show (tl f)[0]? = _; rw [ec]; rfl), rfl, ?_⟩
            have h2 : (!decide (V.str ⟨#[c]⟩ = V.str (Str.ofString "0"))) = !((tl f).head? == some 48) := by
              rw [ec, Bool.eq_iff_iff, Bool.not_eq_true', Bool.not_eq_true', decide_eq_false_iff_not, beq_eq_false_iff_ne]
              have h3 : (V.str ⟨#[c]⟩ = V.str (Str.ofString "0")) ↔ c = 48 := by
                rw [show Str.ofString "0" = ⟨#[48]⟩ by decide +kernel]
                exact ⟨fun z => by
                  have := congrArg tl (V.str.inj z)
                  exact (List.cons.inj this).1, fun z => by rw [z]⟩
              rw [h3]
              exact ⟨fun z y => z (Option.some.inj y), fun z y => z (by rw [y]; rfl)⟩
            rw [h2]
            rw [er, Bool.eq_false_iff.mpr e4] at q
            exact q
    refine ⟨_, rfl, _, rfl, x, rfl, Evl.sz_of hl, rfl, _, rfl, ite2 (fun e => ?_) (fun e => ?_)⟩
    · have e1 : (tl x).take 1 = [45] := by
        have := congrArg tl (V.str.inj (of_decide_eq_true e))
        rw [show tl (cutS x none (some 1)) = (tl x).take 1 from cut_toN x 1] at this
        exact this.trans (by decide +kernel)
      refine ⟨_, rfl, _, rfl, x, rfl, Evl.sz_of hl, ?_⟩
      exact rest _ (Nat.le_trans (cutS_length x _ _) hl) (by rw [if_pos e1]; exact cut_from x 1)
    · have e1 : (tl x).take 1 ≠ [45] := by
        intro z
        refine e (decide_eq_true (congrArg V.str (tl_inj ?_)))
        rw [show tl (cutS x none (some 1)) = (tl x).take 1 from cut_toN x 1, z]
        decide +kernel
      refine ⟨_, rfl, ?_⟩
      exact rest x hl (by rw [if_neg e1])
theorem ok_rank (T : Txt K mg A) : FnOk P w K mg base CX0 3 A.a_rank A.d_rank ["key"] (spRank K) := by
  have G_is_number_text := ok_is_number_text (P := P) (w := w) (base := base) T
  have G_number_of := ok_number_of (P := P) (w := w) (base := base) T
  refine T.F_rank.ok sc_rank (fun vs H Q E h => ?_) (fun cdv A outer s H vs Q E hr h => ?_)
  · obtain ⟨x, rfl, _⟩ := h
    rfl
  · obtain ⟨x, rfl, hl, q⟩ := h
    refine ⟨_, (pss_cons (ps_if (pt_val (pe_call G_is_number_text (hr.mono (by decide)) (by rfl) T.g_is_number_text T.F_is_number_text.kp T.b_is_number_text .nil pass0 (pa_cons (pv 0) pa_nil)))
      (pss_one (ps_ret (pe_tup (pa_cons pe_int (pa_cons (pe_call G_number_of (hr.mono (by decide)) (by rfl) T.g_number_of T.F_number_of.kp T.b_number_of .nil pass0 (pa_cons (pv 0) pa_nil)) (pa_cons pe_str pa_nil))))))
      pss_nil)
      (pss_one (ps_ret (pe_tup (pa_cons pe_int (pa_cons pe_int (pa_cons (pv 0) pa_nil))))))), ?_⟩
    refine ⟨_, rfl, x, rfl, Nat.le_trans hl (by decide), _, rfl, ite2 (fun e => ?_) (fun e => ?_)⟩
    · refine ⟨_, rfl, x, rfl, hl, ?_⟩
      refine ⟨Evl.sz_of (by show 3 ≤ 100000; decide), fun p hp => q _ _ (same_new hp) ?_⟩
      rw [show rankT x = ⟨0, numS x, Str.ofString ""⟩ by unfold rankT; rw [if_pos e]]
      exact dv_rank upd_same
    · refine ⟨_, rfl, ?_⟩
      refine ⟨Evl.sz_of (by show 3 ≤ 100000; decide), fun p hp => q _ _ (same_new hp) ?_⟩
      rw [show rankT x = ⟨1, 0, x⟩ by unfold rankT; rw [if_neg e]]
      exact dv_rank upd_same
theorem ok_before (T : Txt K mg A) : FnOk P w K mg base CX0 4 A.a_before A.d_before ["one", "other"] spBefore := by
  have G_rank := ok_rank (P := P) (w := w) (base := base) T
  refine T.F_before.ok sc_before (fun vs H Q E h => ?_) (fun cdv A outer s H vs Q E hr h => ?_)
  · obtain ⟨a, b, rfl, _⟩ := h
    rfl
  · obtain ⟨a, b, rfl, ha, hb, q⟩ := h
    refine ⟨_, (pss_one (ps_ret (pe_cmpR (k_ltP K hr.units) (pe_call G_rank (hr.mono (by decide)) (by rfl) T.g_rank T.F_rank.kp T.b_rank .nil pass0 (pa_cons (pv 0) pa_nil)) (pe_call G_rank (hr.mono (by decide)) (by rfl) T.g_rank T.F_rank.kp T.b_rank .nil pass0 (pa_cons (pv 1) pa_nil)) (nomark _)))), ?_⟩
    refine ⟨_, rfl, a, rfl, ha, fun v H1 s1 d1 => ⟨_, rfl, b, rfl, hb, fun v2 H2 s2 d2 => ?_⟩⟩
    exact rd_ltP (dp_same s2 d1) d2 (by decide) (q _ (s1.trans s2))
theorem ok_in_order (T : Txt K mg A) : FnOk P w K mg base CX0 6 A.a_in_order A.d_in_order ["keys"] (spInOrder K) := by
  have G_rank := ok_rank (P := P) (w := w) (base := base) T
  refine T.F_in_order.ok sc_in_order (fun vs H Q E h => ?_) (fun cdv Ar outer s H vs Q E hr h => ?_)
  · obtain ⟨a, ks, rfl, _⟩ := h
    rfl
  · obtain ⟨a, ks, rfl, hs, hl, hk, q⟩ := h
    refine ⟨_, (pss_one (ps_ret (pe_callBK (cr_sortKey G_rank (hr.mono (by decide)) T.b_rank) (by rfl) T.n_sorted (by decide +kernel) (pa_cons (pv 0) pa_nil) (pk_cons (pe_glob (v := .ref A.a_rank) rfl T.g_rank rfl) pk_nil)))), ?_⟩
    refine ⟨_, rfl, ?_⟩
    refine ⟨a, ks.map V.str, keyOf, rfl, rfl, hs, by rw [List.length_map]; exact hl, alikeK ks, sortableK ks, fun x hx => ?_, fun x hx H1 s1 R h1 => ?_, fun p H2 hp s2 e2 => q p H2 hp s2 (by rw [e2, sortK_map])⟩
    · obtain ⟨y, _, rfl⟩ := List.mem_map.mp hx
      exact Nat.le_trans (PySem.W.Datum.depth_le (rankT y)) (by decide)
    · obtain ⟨y, hy, rfl⟩ := List.mem_map.mp hx
      exact ⟨y, rfl, hk y hy, fun v H3 s3 d3 => h1 v H3 s3 d3⟩
theorem ok_law_number (T : Txt K mg A) : FnOk P w K mg base CX0 1 A.a_law_number A.d_law_number ["worth"] spLawNumber := by
  refine T.F_law_number.ok sc_law_number (fun vs H Q E h => ?_) (fun cdv A outer s H vs Q E hr h => ?_)
  · obtain ⟨x, rfl, _⟩ := h
    rfl
  · obtain ⟨x, rfl, hl, q⟩ := h
    refine ⟨_, (pss_cons (ps_set (i := 1) sc_law_number.nd rfl (.inl rfl) pe_int)
      (pss_cons (ps_set (i := 2) sc_law_number.nd rfl (.inl rfl) pe_int)
      (pss_cons (ps_while PassesOwn.never (PW.pt (pw_and (pt_cmpR op_lt (pv 1) (pe_callB call_len_str (by rfl) T.n_len PySem.boot_len (pa_cons (pv 0) pa_nil)) (nomark _)) (pw_and1 (pt_cmpR op_inS (pe_ix ix_str (pv 0) (pv 1) (fun _ _ => rfl)) pe_str (by rfl)))))
      (pss_cons (ps_set (i := 2) sc_law_number.nd rfl (.inl rfl) (pe_op op_add (pv 2) (pe_callTy call_int1 (by rfl) T.n_int (by decide +kernel) (pa_cons (pe_cmpR op_eq (pe_ix ix_str (pv 0) (pv 1) (fun _ _ => rfl)) pe_str (nomark _)) pa_nil))))
      (pss_one (ps_set (i := 1) sc_law_number.nd rfl (.inl rfl) (pe_op op_add (pv 1) pe_int)))))
      (pss_cons (ps_set (i := 3) sc_law_number.nd rfl (.inl rfl) pe_int)
      (pss_cons (ps_while PassesOwn.never (PW.pt (pw_and (pt_cmpR op_lt (pv 1) (pe_callB call_len_str (by rfl) T.n_len PySem.boot_len (pa_cons (pv 0) pa_nil)) (nomark _)) (pw_and1 (pt_cmpR op_inS (pe_ix ix_str (pv 0) (pv 1) (fun _ _ => rfl)) pe_str (by rfl)))))
      (pss_cons (ps_set (i := 3) sc_law_number.nd rfl (.inl rfl) (pe_op op_add (pe_op op_mulW (pv 3) pe_int) (pe_m1 PySem.F.slot_str_find PySem.F.type_str_find mt_find pe_str (pe_ix ix_str (pv 0) (pv 1) (fun _ _ => rfl)))))
      (pss_one (ps_set (i := 1) sc_law_number.nd rfl (.inl rfl) (pe_op op_add (pv 1) pe_int)))))
      (pss_one (ps_ret (pe_ix (k_ix_list K) (pe_lst (pa_cons (pv 3) (pa_cons (pe_op op_sub pe_int (pv 3)) pa_nil))) (pe_op op_mod (pv 2) pe_int) (fun _ _ => rfl))))))))), ?_⟩
    have hx := len_tl x
    have hsz : x.length ≤ sizeLine := Evl.sz_of (by omega)
    -- the marks
    refine ⟨fun m σ H' => ∃ pre rest, tl x = pre ++ rest ∧ (∀ c ∈ pre, isMark c = true) ∧ m = rest.length ∧ H' = H ∧ σ = [some (.str x), some (.int (pre.length : Int)), some (.int (pre.count 45 : Int)), none], ⟨_, [], tl x, rfl, (fun _ h => nomatch h), rfl, rfl, rfl⟩, ?_⟩
    rintro m σ H' ⟨pre, rest, e, hp, rfl, rfl, rfl⟩
    -- what comes behind the marks
    have figs : rest = [] ∨ (∃ c r, rest = c :: r ∧ isMark c = false) → tSeq (tAsg (tC (.int 0)) (gName 3)) (tSeq (tWhile (tAnd (tTest (tOp (rI0 fun i j => .bl (decide (i < j))) (tVar 1) (tCB (fun xs H Q => ∃ z, xs = [V.str z] ∧ z.length ≤ sizeLine ∧ Q (V.int z.length) H) (tCons (tVar 0) tNil)))) (tTest (tOp rInS (tOp rIxS (tVar 0) (tVar 1)) (tC (.str "0123456789")))))
          (tSeq (tAsg (tOp (rI0 fun i j => .int (i + j)) (tOp (rI CMulW fun i j => .int (i * j)) (tVar 3) (tC (.int 10))) (tM1 (fun x xs H Q => ∃ a b, x = V.str a ∧ xs = [V.str b] ∧ Q (V.int (Txt.find a b)) H) (tC (.str "0123456789")) (tOp rIxS (tVar 0) (tVar 1)))) (gName 3)) (tAsg (tOp (rI0 fun i j => .int (i + j)) (tVar 1) (tC (.int 1))) (gName 1))))
        (tRet (tOp (rIxL K) (tLst (tCons (tVar 3) (tCons (tOp (rI0 fun i j => .int (i - j)) (tC (.int 0)) (tVar 3)) tNil))) (tOp (rI (fun _ j => 0 < j) fun i j => .int (i % j)) (tVar 2) (tC (.int 2))))))
        { nx := fun _ H' => Q .non H', rt := Q } [some (.str x), some (.int (pre.length : Int)), some (.int (pre.count 45 : Int)), none] H' := by
      intro hr
      obtain ⟨e1, e2⟩ := takeWhile_pre (p := isMark) hp hr
      rw [← e] at e1 e2
      refine ⟨fun m σ H2 => ∃ p2 r2, rest = p2 ++ r2 ∧ (∀ c ∈ p2, isFig c = true) ∧ m = r2.length ∧ H2 = H' ∧ σ = [some (.str x), some (.int ((pre.length + p2.length : Nat) : Int)), some (.int (pre.count 45 : Int)), some (.int (PySem.NumText.digitsVal p2 : Int))], ⟨_, [], rest, rfl, (fun _ h => nomatch h), rfl, rfl, rfl⟩, ?_⟩
      rintro m σ H2 ⟨p2, r2, f, hp2, rfl, rfl, rfl⟩
      have hlen : x.length = pre.length + p2.length + r2.length := by rw [hx, e, f, List.length_append, List.length_append]; omega
      have hd2 : PySem.NumText.AllDigits p2 := fun c hc => isFig_iff.mp (hp2 c hc)
      have fin : r2 = [] ∨ (∃ c r, r2 = c :: r ∧ isFig c = false) → tRet (tOp (rIxL K) (tLst (tCons (tVar 3) (tCons (tOp (rI0 fun i j => .int (i - j)) (tC (.int 0)) (tVar 3)) tNil))) (tOp (rI (fun _ j => 0 < j) fun i j => .int (i % j)) (tVar 2) (tC (.int 2))))
          { nx := fun _ H' => Q .non H', rt := Q } [some (.str x), some (.int ((pre.length + p2.length : Nat) : Int)), some (.int (pre.count 45 : Int)), some (.int (PySem.NumText.digitsVal p2 : Int))] H2 := by
        intro hr2
        obtain ⟨f1, f2⟩ := takeWhile_pre (p := isFig) hp2 hr2
        rw [← f] at f1
        have ev : PySem.NumText.digitsVal (figsOf (tl x)) = PySem.NumText.digitsVal p2 := by unfold figsOf; rw [e2, f1]
        have em : marksOf (tl x) = pre := e1
        refine ⟨_, rfl, _, rfl, _, _, rfl, rfl, Evl.sz_of (by show 2 ≤ 100000; decide), fun p hp => ?_⟩
        refine ⟨_, rfl, _, _, rfl, rfl, (show (0 : Int) < 2 by decide), ?_⟩
        have er : atI ([V.int (PySem.NumText.digitsVal p2 : Int), V.int (0 - (PySem.NumText.digitsVal p2 : Int))]) ((pre.count 45 : Int) % 2) = some (.int (numS x)) := by
          unfold numS numL
          rw [em, ev]
          by_cases h : pre.count 45 % 2 = 1
          · rw [if_pos h, show ((pre.count 45 : Int) % 2) = ((1 : Nat) : Int) by omega]
            exact atI_nat rfl
          · rw [if_neg h, show ((pre.count 45 : Int) % 2) = ((0 : Nat) : Int) by omega]
            exact atI_nat rfl
        exact ⟨p, _, _, _, rfl, rfl, .inl (.inl upd_same), er, q _ (same_new hp)⟩
      refine ⟨_, rfl, _, rfl, x, rfl, hsz, _, _, rfl, rfl, _, rfl, ?_⟩
      cases r2 with
      | nil =>
        rw [decide_eq_false (show ¬ ((pre.length + p2.length : Nat) : Int) < (x.length : Int) by rw [hlen, List.length_nil]; omega)]
        exact iteF (iteF (fin (.inl rfl)))
      | cons c r =>
        rw [decide_eq_true (show ((pre.length + p2.length : Nat) : Int) < (x.length : Int) by rw [hlen, List.length_cons]; omega)]
        have hc : atI (tl x) ((pre.length + p2.length : Nat) : Int) = some c := atI_nat (by rw [e, f, ← List.append_assoc, List.getElem?_append_right (by rw [List.length_append]; omega), List.length_append, Nat.sub_self]; rfl)
        refine iteT ⟨_, rfl, _, rfl, x, _, c, rfl, rfl, hsz, hc, c, _, rfl, rfl, _, rfl, ?_⟩
        rw [fig_mem]
        cases hf : isFig c with
        | false => exact iteF (fin (.inr ⟨c, r, rfl, hf⟩))
        | true =>
          have hcf := isFig_iff.mp hf
          refine iteT ⟨_, fun σ' H' h => h, ?_⟩
          refine ⟨_, rfl, _, _, rfl, rfl, val_mul hd2 (by omega), ⟨_, rfl⟩, _, rfl, _, rfl, x, _, c, rfl, rfl, hsz, hc, _, _, rfl, rfl, ?_⟩
          rw [find_fig hcf]
          refine ⟨_, _, rfl, rfl, _, rfl, _, _, rfl, rfl, r.length, Nat.lt_succ_self _, p2 ++ [c], r, by rw [f]; simp, fun d hd => ?_, rfl, rfl, ?_⟩
          · rcases List.mem_append.mp hd with hd | hd
            · exact hp2 d hd
            · rw [List.mem_singleton.mp hd]; exact hf
          · rw [PySem.NumText.digitsVal_snoc, List.length_append, List.length_singleton]
            have h1 : ((PySem.NumText.digitsVal p2 : Nat) : Int) * 10 + ((c - 48 : Nat) : Int) = ((PySem.NumText.digitsVal p2 * 10 + (c - 48) : Nat) : Int) := by omega
            have h2 : ((pre.length + p2.length : Nat) : Int) + 1 = ((pre.length + (p2.length + 1) : Nat) : Int) := by omega
            rw [← h1, ← h2]
            rfl
    have hlen : x.length = pre.length + rest.length := by rw [hx, e, List.length_append]
    refine ⟨_, rfl, _, rfl, x, rfl, hsz, _, _, rfl, rfl, _, rfl, ?_⟩
    cases rest with
    | nil =>
      rw [decide_eq_false (show ¬ (pre.length : Int) < (x.length : Int) by rw [hlen, List.length_nil]; omega)]
      exact iteF (iteF (figs (.inl rfl)))
    | cons c r =>
      rw [decide_eq_true (show (pre.length : Int) < (x.length : Int) by rw [hlen, List.length_cons]; omega)]
      have hc : atI (tl x) (pre.length : Int) = some c := atI_nat (by rw [e, List.getElem?_append_right (Nat.le_refl _), Nat.sub_self]; rfl)
      refine iteT ⟨_, rfl, _, rfl, x, _, c, rfl, rfl, hsz, hc, c, _, rfl, rfl, _, rfl, ?_⟩
      rw [mark_mem]
      cases hf : isMark c with
      | false => exact iteF (figs (.inr ⟨c, r, rfl, hf⟩))
      | true =>
        refine iteT ⟨_, fun σ' H' h => h, ?_⟩
        refine ⟨_, rfl, _, rfl, _, rfl, x, _, c, rfl, rfl, hsz, hc, rfl, .inr ⟨_, rfl, _, _, rfl, rfl, ?_⟩⟩
        refine ⟨_, rfl, _, _, rfl, rfl, r.length, Nat.lt_succ_self _, pre ++ [c], r, by rw [e]; simp, fun d hd => ?_, rfl, rfl, ?_⟩
        · rcases List.mem_append.mp hd with hd | hd
          · exact hp d hd
          · rw [List.mem_singleton.mp hd]; exact hf
        · rw [List.count_append, List.length_append, List.length_singleton]
          rw [show Str.ofString "-" = ⟨#[45]⟩ by decide +kernel, eq_sign]
          have h1 : (pre.count 45 : Int) + (if (c == 45) = true then 1 else 0) = ((pre.count 45 + [c].count 45 : Nat) : Int) := by
            rw [List.count_singleton]
            split <;> omega
          have h2 : (pre.length : Int) + 1 = ((pre.length + 1 : Nat) : Int) := by omega
          rw [← h1, ← h2]
          rfl
theorem ok_law_ahead (T : Txt K mg A) : FnOk P w K mg base CX0 2 A.a_law_ahead A.d_law_ahead ["one", "other"] spAheadK := by
  have G_law_number := ok_law_number (P := P) (w := w) (base := base) T
  have G_law_signs := ok_law_signs (P := P) (w := w) (base := base) T
  refine T.F_law_ahead.ok sc_law_ahead (fun vs H Q E h => ?_) (fun cdv A outer s H vs Q E hr h => ?_)
  · obtain ⟨a, b, rfl, _⟩ := h
    rfl
  · obtain ⟨a, b, rfl, ha, hb, q⟩ := h
    have la := ha.len
    have lb := hb.len
    refine ⟨_, (pss_cons (ps_set (i := 2) sc_law_ahead.nd rfl (.inl rfl) (pe_lst (pa_cons (pe_cmpR op_eq (pe_callTy call_str_int (by rfl) T.n_str (by decide +kernel) (pa_cons (pe_call G_law_number (hr.mono (by decide)) (by rfl) T.g_law_number T.F_law_number.kp T.b_law_number .nil pass0 (pa_cons (pv 0) pa_nil)) pa_nil)) (pv 0) (nomark _)) (pa_cons (pe_cmpR op_eq (pe_callTy call_str_int (by rfl) T.n_str (by decide +kernel) (pa_cons (pe_call G_law_number (hr.mono (by decide)) (by rfl) T.g_law_number T.F_law_number.kp T.b_law_number .nil pass0 (pa_cons (pv 1) pa_nil)) pa_nil)) (pv 1) (nomark _)) pa_nil))))
      (pss_cons (ps_if (pt_cmpR (k_eqP K hr.units) (pv 2) (pe_lst (pa_cons pe_bl (pa_cons pe_bl pa_nil))) (nomark _))
      (pss_one (ps_ret (pe_cmpR op_lt (pe_call G_law_number (hr.mono (by decide)) (by rfl) T.g_law_number T.F_law_number.kp T.b_law_number .nil pass0 (pa_cons (pv 0) pa_nil)) (pe_call G_law_number (hr.mono (by decide)) (by rfl) T.g_law_number T.F_law_number.kp T.b_law_number .nil pass0 (pa_cons (pv 1) pa_nil)) (nomark _))))
      pss_nil)
      (pss_cons (ps_if (pt_cmpR (k_in K) pe_bl (pv 2) (by rfl))
      (pss_one (ps_ret (pe_ix (k_ix_list K) (pv 2) pe_int (fun _ _ => rfl))))
      pss_nil)
      (pss_cons (ps_for PassesOwn.never rfl (pi_range1 (by rfl) T.n_range (pa_cons (pe_callB (call_min2 rfl) (by rfl) T.n_min (by decide +kernel) (pa_cons (pe_callB call_len_str (by rfl) T.n_len PySem.boot_len (pa_cons (pv 0) pa_nil)) (pa_cons (pe_callB call_len_str (by rfl) T.n_len PySem.boot_len (pa_cons (pv 1) pa_nil)) pa_nil))) pa_nil)) (pg_name (i := 3) sc_law_ahead.nd rfl (.inl rfl))
      (pss_one (ps_if (pt_cmpR op_ne (pe_ix ix_str (pv 0) (pv 3) (fun _ _ => rfl)) (pe_ix ix_str (pv 1) (pv 3) (fun _ _ => rfl)) (nomark _))
      (pss_one (ps_ret (pe_cmpR op_lt (pe_m1 PySem.F.slot_str_find PySem.F.type_str_find mt_find (pe_call0 G_law_signs (hr.mono (by decide)) (by rfl) T.g_law_signs T.F_law_signs.kp T.b_law_signs .nil pass0) (pe_ix ix_str (pv 0) (pv 3) (fun _ _ => rfl))) (pe_m1 PySem.F.slot_str_find PySem.F.type_str_find mt_find (pe_call0 G_law_signs (hr.mono (by decide)) (by rfl) T.g_law_signs T.F_law_signs.kp T.b_law_signs .nil pass0) (pe_ix ix_str (pv 1) (pv 3) (fun _ _ => rfl))) (nomark _))))
      pss_nil)))
      (pss_one (ps_ret (pe_cmpR op_lt (pe_callB call_len_str (by rfl) T.n_len PySem.boot_len (pa_cons (pv 0) pa_nil)) (pe_callB call_len_str (by rfl) T.n_len PySem.boot_len (pa_cons (pv 1) pa_nil)) (nomark _)))))))), ?_⟩
    refine ⟨_, rfl, a, rfl, by omega, fun H1 s1 => ?_⟩
    refine ⟨_, rfl, numS_bits (by omega), _, rfl, rfl, ?_⟩
    rw [tl_own]
    refine ⟨_, rfl, b, rfl, by omega, fun H2 s2 => ⟨_, rfl, numS_bits (by omega), _, rfl, rfl, ?_⟩⟩
    rw [tl_own]
    refine ⟨Evl.sz_of (by show 2 ≤ 100000; decide), fun p hp => ?_⟩
    have s3 := (s1.trans s2).trans (same_new (o := .lst [.bl (isNumS a), .bl (isNumS b)]) hp)
    have e3 : upd H2 p (.lst [.bl (isNumS a), .bl (isNumS b)]) p = some (.lst ([isNumS a, isNumS b].map V.bl)) := upd_same
    generalize upd H2 p _ = H3 at s3 e3 ⊢
    -- both numbers
    refine ⟨_, rfl, Evl.sz_of (by show 2 ≤ 100000; decide), fun p2 hp2 => ?_⟩
    refine rd_eqP (dv_bools (.inl (.inl (same_new hp2 _ _ e3)))) (dv_bools (ks := [true, true]) (.inl (.inl upd_same))) (by decide) ⟨_, rfl, ?_⟩
    have s4 := s3.trans (same_new (o := .lst [.bl true, .bl true]) hp2)
    have e4 := same_new (o := .lst [.bl true, .bl true]) hp2 _ _ e3
    generalize upd H3 p2 _ = H4 at s4 e4 ⊢
    refine ite2 (fun e => ?_) (fun e => ?_)
    · have e := of_decide_eq_true e
      have e1 : isNumS a = true := (List.cons.inj e).1
      have e2 : isNumS b = true := (List.cons.inj (List.cons.inj e).2).1
      refine ⟨_, rfl, a, rfl, by omega, fun H5 s5 => ⟨_, rfl, b, rfl, by omega, fun H6 s6 => ⟨_, _, rfl, rfl, ?_⟩⟩⟩
      have q9 := q _ ((s4.trans s5).trans s6)
      rw [ltK_nn e1 e2] at q9
      exact q9
    cases e1 : isNumS a <;> cases e2 : isNumS b <;> rw [e1, e2] at e e4
    rotate_left
    · refine ⟨_, rfl, p, _, rfl, .inl (.inl (.inl e4)), rfl, rfl, _, rfl, iteT ?_⟩
      refine ⟨_, rfl, p, _, 0, .bl false, rfl, rfl, .inl (.inl e4), atI_nat (j := 0) rfl, ?_⟩
      have q9 := q _ s4
      rw [ltK_tn e1 e2] at q9
      exact q9
    · refine ⟨_, rfl, p, _, rfl, .inl (.inl (.inl e4)), rfl, rfl, _, rfl, iteT ?_⟩
      refine ⟨_, rfl, p, _, 0, .bl true, rfl, rfl, .inl (.inl e4), atI_nat (j := 0) rfl, ?_⟩
      have q9 := q _ s4
      rw [ltK_nt e1 e2] at q9
      exact q9
    · exact absurd rfl e
    refine ⟨_, rfl, p, _, rfl, .inl (.inl (.inl e4)), rfl, rfl, _, rfl, iteF ?_⟩
    have q9 := q _ s4
    rw [ltK_tt e1 e2] at q9
    have hla := len_tl a
    have hlb := len_tl b
    refine ⟨_, rfl, a, rfl, Evl.sz_of (by omega), _, rfl, b, rfl, Evl.sz_of (by omega), _, _, rfl, ?_⟩
    obtain ⟨n, hn⟩ : ∃ n : Nat, n = min (tl a).length (tl b).length := ⟨_, rfl⟩
    rw [show (if (b.length : Int) < (a.length : Int) then (b.length : Int) else (a.length : Int)) = (n : Int) by split <;> omega]
    refine ⟨_, rfl, by omega, by omega, ?_⟩
    refine for_range (fun i σ H' => H' = H4 ∧ (∃ y, σ = [some (.str a), some (.str b), some (.ref p), y]) ∧ (tl a).take i = (tl b).take i) ⟨rfl, ⟨_, rfl⟩, rfl⟩ ?_ ?_
    · rintro i σ H5 hi ⟨rfl, ⟨y, rfl⟩, ht⟩
      rw [Int.toNat_natCast] at hi
      have ga : (tl a)[i]? = some (tl a)[i] := List.getElem?_eq_getElem (by omega)
      have gb : (tl b)[i]? = some (tl b)[i] := List.getElem?_eq_getElem (by omega)
      generalize (tl a)[i]'(by omega) = c at ga
      generalize (tl b)[i]'(by omega) = d at gb
      have ca := ha.worth c (List.mem_of_getElem? ga)
      have cb := hb.worth d (List.mem_of_getElem? gb)
      have ia : atI (tl a) (0 + (i : Int)) = some c := by rw [Int.zero_add]; exact atI_nat ga
      have ib : atI (tl b) (0 + (i : Int)) = some d := by rw [Int.zero_add]; exact atI_nat gb
      refine ⟨_, rfl, _, rfl, a, _, c, rfl, rfl, Evl.sz_of (by omega), ia, _, rfl, _, rfl, b, _, d, rfl, rfl, Evl.sz_of (by omega), ib, rfl, _, rfl, ite2 (fun e => ?_) (fun e => ?_)⟩
      · have ne : c ≠ d := by
          intro z
          rw [z, decide_eq_true rfl] at e
          cases e
        refine ⟨rfl, ⟨_, rfl⟩, _, rfl, _, rfl, a, _, c, rfl, rfl, Evl.sz_of (by omega), ia, _, _, rfl, rfl, rfl, ⟨_, rfl⟩, _, rfl, _, rfl, b, _, d, rfl, rfl, Evl.sz_of (by omega), ib, _, _, rfl, rfl, _, _, rfl, rfl, ?_⟩
        rw [show decide (tl a < tl b) = decide (Txt.find lawSigns ⟨#[c]⟩ < Txt.find lawSigns ⟨#[d]⟩) from (decide_eq_decide.mpr (lt_at ht ga gb ne)).trans (find_lt ca cb).symm] at q9
        exact q9
      · have eq : c = d := by
          refine Decidable.byContradiction fun z => e ?_
          rw [decide_eq_false]
          · rfl
          · intro y
            exact z (List.cons.inj (congrArg tl (V.str.inj y))).1
        subst eq
        exact ⟨rfl, ⟨_, rfl⟩, take_next ht ga gb⟩
    · rintro σ H5 ⟨rfl, ⟨y, rfl⟩, ht⟩
      rw [Int.toNat_natCast] at ht
      refine ⟨_, rfl, a, rfl, Evl.sz_of (by omega), _, rfl, b, rfl, Evl.sz_of (by omega), _, _, rfl, rfl, ?_⟩
      rw [show decide (tl a < tl b) = decide ((a.length : Int) < (b.length : Int)) from decide_eq_decide.mpr ((lt_pre ht hn).trans (by omega))] at q9
      exact q9
theorem ok_law_right (T : Txt K mg A) : FnOk P w K mg base CX0 7 A.a_law_right A.d_law_right ["keys"] (spRightK K) := by
  have G_in_order := ok_in_order (P := P) (w := w) (base := base) T
  have G_law_ahead := ok_law_ahead (P := P) (w := w) (base := base) T
  refine T.F_law_right.ok sc_law_right (fun vs H Q E h => ?_) (fun cdv Ar outer s H vs Q E hr h => ?_)
  · obtain ⟨a, ks, rfl, _⟩ := h
    rfl
  · obtain ⟨a, ks, rfl, hS, hl, hk, q⟩ := h
    refine ⟨_, (pss_cons (ps_set (i := 1) sc_law_right.nd rfl (.inl rfl) (pe_callTy (k_list K) (by rfl) T.n_list (by decide +kernel) (pa_cons (pv 0) pa_nil)))
      (pss_cons (ps_set (i := 2) sc_law_right.nd rfl (.inr rfl) (pe_call G_in_order (hr.mono (by decide)) (by rfl) T.g_in_order T.F_in_order.kp T.b_in_order .nil pass0 (pa_cons (pv 1) pa_nil)))
      (pss_cons (ps_if (PW.pt (pw_or (pt_not (pt_val (pe_callB (k_isi K) (by rfl) T.n_isinstance (by decide +kernel) (pa_cons (pv 2) (pa_cons (pe_bltn (v := .ty "list") (by rfl) T.n_list (by decide +kernel) rfl) pa_nil))))) (pw_or (pt_cmpR (k_neP K hr.units) (pe_callB (k_sortD K hr.units) (by rfl) T.n_sorted (by decide +kernel) (pa_cons (pv 2) pa_nil)) (pe_callB (k_sortD K hr.units) (by rfl) T.n_sorted (by decide +kernel) (pa_cons (pv 0) pa_nil)) (nomark _)) (pw_or1 (pt_cmpR (k_neP K hr.units) (pv 1) (pv 0) (nomark _))))))
      (pss_one (ps_ret pe_bl))
      pss_nil)
      (pss_cons (ps_if (pt_cmpR (k_neP K hr.units) (pe_lc (own := [("k", 4)]) (g := gName 4)  rfl sc_law_right.nd (pi_range2 (by rfl) T.n_range (pa_cons pe_int (pa_cons (pe_callB (k_len K) (by rfl) T.n_len PySem.boot_len (pa_cons (pv 2) pa_nil)) pa_nil))) (blkOk_by (own := [("k", 4)]) (N := N_law_right) (sc := defScope s_law_right) (by decide +kernel)) (fun _ _ _ _ _ => (pg_name (i := 4) sc_law_right.nd rfl (.inl rfl))) (fun _ _ _ _ _ => pts_one (pt_val (pe_call G_law_ahead (hr.mono (by decide)) (by rfl) T.g_law_ahead T.F_law_ahead.kp T.b_law_ahead .nil pass0 (pa_cons (pe_ix (k_ix_list K) (pv 2) (pv 4) (fun _ _ => rfl)) (pa_cons (pe_ix (k_ix_list K) (pv 2) (pe_op op_sub (pv 4) pe_int) (fun _ _ => rfl)) pa_nil))))) (fun _ _ _ _ _ => (pv 4))) (pe_lst pa_nil) (nomark _))
      (pss_one (ps_ret pe_bl))
      pss_nil)
      (pss_cons (ps_set (i := 3) sc_law_right.nd rfl (.inl rfl) (pe_callTy (k_list K) (by rfl) T.n_list (by decide +kernel) (pa_cons (pv 2) pa_nil)))
      (pss_cons (ps_expr (k_bm K PySem.F.plainAttrs_list PySem.F.slot_list_append PySem.F.type_list_append mt_append (pv 2) (pa_cons pe_str pa_nil)))
      (pss_one (ps_ret (pe_cmpR (k_eqP K hr.units) (pe_call G_in_order (hr.mono (by decide)) (by rfl) T.g_in_order T.F_in_order.kp T.b_in_order .nil pass0 (pa_cons (k_revL K (pv 0)) pa_nil)) (pv 3) (nomark _)))))))))), ?_⟩
    have h640 : ∀ k ∈ ks, k.length ≤ 640 := fun k h => Nat.le_trans (hk k h).len (by decide)
    refine ⟨_, rfl, a, _, rfl, .inl hS, fun p1 hp1 => ?_⟩
    have s1 := same_new (o := .lst (ks.map V.str)) hp1
    have e1 : upd H p1 (.lst (ks.map V.str)) p1 = some (.lst (ks.map V.str)) := upd_same
    have S1 := s1.seq hS
    generalize upd H p1 _ = H1 at s1 e1 S1 ⊢
    refine ⟨_, rfl, p1, ks, rfl, .inl (.inl e1), by omega, h640, fun p2 H2 hp2 s2 e2 => ?_⟩
    have e1 := s2 _ _ e1
    have S2 := s2.seq S1
    have s12 := s1.trans s2
    have hp2H : H p2 = none := none_of_same s1 hp2
    have hlen : (sortK ks).length = ks.length := (sortK_perm ks).length_eq
    -- a list, the same keys, the handed one stays
    refine ⟨_, rfl, _, _, _, _, true, rfl, .ty "list", .base (.lst e2), kit_ty (by decide +kernel), _, rfl, iteF ?_⟩
    refine ⟨_, rfl, ?_⟩
    dsimp only [tNil]
    refine sort_strs (K := K) (.inl (.inl e2)) fun q1 hq1 => ?_
    refine ⟨_, rfl, ?_⟩
    dsimp only [tNil]
    have s3 := same_new (o := .lst (((sortK ks).mergeSort fun x y => !PySem.W.DatumOrd.lt y x).map V.str)) hq1
    have e3 : upd H2 q1 (.lst (((sortK ks).mergeSort fun x y => !PySem.W.DatumOrd.lt y x).map V.str)) q1 = some (.lst (((sortK ks).mergeSort fun x y => !PySem.W.DatumOrd.lt y x).map V.str)) := upd_same
    have e2 := s3 _ _ e2
    have e1 := s3 _ _ e1
    have S3 := s3.seq S2
    have s13 := s12.trans s3
    generalize upd H2 q1 _ = H3 at s3 e3 e2 e1 S3 s13 ⊢
    refine sort_strs (K := K) S3 fun q2 hq2 => ?_
    have s4 := same_new (o := .lst ((ks.mergeSort fun x y => !PySem.W.DatumOrd.lt y x).map V.str)) hq2
    refine rd_neP (dv_strsL (.inl (.inl (s4 _ _ e3)))) (dv_strsL (.inl (.inl upd_same))) (by decide) ⟨_, rfl, ?_⟩
    rw [show (sortK ks).mergeSort (fun x y => !PySem.W.DatumOrd.lt y x) = ks.mergeSort (fun x y => !PySem.W.DatumOrd.lt y x) from sortS_same (sortK_perm ks), decide_eq_true rfl]
    refine iteF ?_
    have e2 := s4 _ _ e2
    have e1 := s4 _ _ e1
    have S4 := s4.seq S3
    have s14 := s13.trans s4
    generalize upd H3 q2 _ = H4 at s4 e2 e1 S4 s14 ⊢
    refine ⟨_, rfl, _, rfl, rd_neP (dv_strsL (.inl (.inl e1))) (dv_strsL S4) (by decide) ⟨_, rfl, ?_⟩⟩
    rw [decide_eq_true rfl]
    refine iteF ?_
    -- none behind one that it stands ahead of
    have hkr : ∀ k ∈ sortK ks, KeyW k := fun k h => hk k ((sortK_perm ks).mem_iff.mp h)
    refine ⟨_, rfl, p2, _, rfl, .inl (.inl (.inl e2)), 1, _, rfl, ⟨by decide, by decide, by omega, by rw [List.length_map]; omega⟩, fun E3 hE3 => ?_⟩
    refine lc_none_range (lo := 1) (n := (((((sortK ks).map V.str).length : Nat) : Int) - 1).toNat) hE3 (fun j H5 hj s5 R q5 => ?_) (fun H5 s5 e5 => ?_)
    · rw [List.length_map] at hj
      have p5 := s5 _ _ e2
      have g1 : (sortK ks)[j + 1]? = some (sortK ks)[j + 1] := List.getElem?_eq_getElem (by omega)
      have g0 : (sortK ks)[j]? = some (sortK ks)[j] := List.getElem?_eq_getElem (by omega)
      refine ⟨_, rfl, _, rfl, p2, _, _, _, rfl, rfl, .inl (.inl p5), at_strs (i := j + 1) (by omega) g1, _, rfl, _, rfl, _, _, rfl, rfl, p2, _, _, _, rfl, rfl, .inl (.inl p5), at_strs (i := j) (by omega) g0, _, _, rfl, hkr _ (List.mem_of_getElem? g1), hkr _ (List.mem_of_getElem? g0), fun H6 s6 => ⟨_, rfl, ?_⟩⟩
      rw [row_next g0 g1]
      exact q5 _ s6
    refine ⟨Evl.sz_of (by show 0 ≤ 100000; decide), fun p6 hp6 => ?_⟩
    refine rd_neP (dv_ints (ks := []) (.inl (.inl (same_new hp6 _ _ e5)))) (dv_ints (ks := []) (.inl (.inl upd_same))) (by decide) ⟨_, rfl, ?_⟩
    rw [decide_eq_true rfl]
    refine iteF ?_
    have s6 := s5.trans (same_new (o := .lst []) hp6)
    have e2 := s6 _ _ e2
    have S6 := s6.seq S4
    have s16 := s14.trans s6
    generalize upd H5 p6 _ = H6 at s6 e2 S6 s16 ⊢
    -- its own row
    refine ⟨_, rfl, p2, _, rfl, .inl (.inl (.inl e2)), fun p7 hp7 => ?_⟩
    have s7 := same_new (o := .lst ((sortK ks).map V.str)) hp7
    have e7 : upd H6 p7 (.lst ((sortK ks).map V.str)) p7 = some (.lst ((sortK ks).map V.str)) := upd_same
    have n27 : p2 ≠ p7 := ne_of_none e2 hp7
    have e2 := s7 _ _ e2
    have s17 := s16.trans s7
    generalize upd H6 p7 _ = H7 at e7 e2 s17 ⊢
    refine ⟨_, rfl, .inl ⟨rfl, _, .inl (.inl e2)⟩, p2, _, _, rfl, rfl, e2, Evl.sz_lt (by rw [List.length_map]; omega), ?_⟩
    have hp2H' : H p2 = none := hp2H
    have s18 : Same H (upd H7 p2 (.lst ((sortK ks).map V.str ++ [.str "zz"]))) := same_mut s17 hp2H
    have e8 : upd H7 p2 (.lst ((sortK ks).map V.str ++ [.str "zz"])) p7 = some (.lst ((sortK ks).map V.str)) := by rw [upd_ne n27.symm]; exact e7
    generalize upd H7 p2 _ = H8 at s18 e8 ⊢
    have S8 := s18.seq hS
    refine ⟨_, rfl, a, _, rfl, S8, fun p9 hp9 => ?_⟩
    have hkv : ∀ k ∈ ks.reverse, k.length ≤ 640 := fun k h => h640 k (List.mem_reverse.mp h)
    refine ⟨p9, ks.reverse, rfl, .inl (.inl (by rw [upd_same, List.map_reverse])), by rw [List.length_reverse]; omega, hkv, fun p10 H10 hp10 s10 e10 => ?_⟩
    have s20 := s18.trans ((same_new hp9).trans s10)
    refine ⟨_, rfl, rd_eqP (dv_strsL (.inl (.inl e10))) (dv_strsL (.inl (.inl (s10 _ _ (same_new hp9 _ _ e8))))) (by decide) ?_⟩
    rw [sortK_same (List.reverse_perm ks), decide_eq_true rfl]
    exact q _ s20
theorem ok_law (T : Txt K mg A) : FnOk P w K mg base CX0 8 A.a_law A.d_law ["script"] (spLaw K) := by
  have G_law_draw := ok_law_draw (P := P) (w := w) (base := base) T
  have G_law_bag := ok_law_bag (P := P) (w := w) (base := base) T
  have G_law_cell_at := ok_law_cell_at (P := P) (w := w) (base := base) T
  have G_law_key := ok_law_key (P := P) (w := w) (base := base) T
  have G_law_number := ok_law_number (P := P) (w := w) (base := base) T
  have G_law_ahead := ok_law_ahead (P := P) (w := w) (base := base) T
  have G_law_right := ok_law_right (P := P) (w := w) (base := base) T
  have G_before := ok_before (P := P) (w := w) (base := base) T
  refine T.F_law.ok sc_law (fun vs H Q E h => ?_) (fun cdv Ar outer s H vs Q E hr h => ?_)
  · obtain ⟨a, ns, rfl, _⟩ := h
    rfl
  · obtain ⟨a, ns, rfl, hS, hl, hb, q⟩ := h
    refine ⟨_, (pss_cons (ps_for PassesOwn.never rfl (pi_range1 (by rfl) T.n_range (pa_cons (pe_callB (call_max2 rfl) (by rfl) T.n_max (by decide +kernel) (pa_cons pe_int (pa_cons (pe_callB (call_min2 rfl) (by rfl) T.n_min (by decide +kernel) (pa_cons pe_int (pa_cons (pe_callB (k_len K) (by rfl) T.n_len PySem.boot_len (pa_cons (pv 0) pa_nil)) pa_nil))) pa_nil))) pa_nil)) (pg_name (i := 1) sc_law.nd rfl (.inl rfl))
      (pss_cons (ps_set (i := 2) sc_law.nd rfl (.inr rfl) (pe_call G_law_bag (hr.mono (by decide)) (by rfl) T.g_law_bag T.F_law_bag.kp T.b_law_bag .nil pass0 (pa_cons (pe_call G_law_cell_at (hr.mono (by decide)) (by rfl) T.g_law_cell_at T.F_law_cell_at.kp T.b_law_cell_at .nil pass0 (pa_cons (pv 0) (pa_cons (pv 1) pa_nil))) (pa_cons (pv 1) pa_nil))))
      (pss_cons (ps_set (i := 3) sc_law.nd rfl (.inl rfl) (pe_ix (k_ix_list K) (pe_lst (pa_cons (pe_call G_law_draw (hr.mono (by decide)) (by rfl) T.g_law_draw T.F_law_draw.kp T.b_law_draw .nil pass0 (pa_cons (pv 2) (pa_cons pe_int pa_nil))) (pa_cons (pe_ix (k_ix_list K) (pe_lst (pa_cons pe_int (pa_cons pe_int pa_nil))) (pe_call G_law_draw (hr.mono (by decide)) (by rfl) T.g_law_draw T.F_law_draw.kp T.b_law_draw .nil pass0 (pa_cons (pv 2) (pa_cons pe_int pa_nil))) (fun _ _ => rfl)) pa_nil))) (pe_callTy call_int1 (by rfl) T.n_int (by decide +kernel) (pa_cons (pe_cmpR op_eq (pe_call G_law_draw (hr.mono (by decide)) (by rfl) T.g_law_draw T.F_law_draw.kp T.b_law_draw .nil pass0 (pa_cons (pv 2) (pa_cons pe_int pa_nil))) pe_int (nomark _)) pa_nil)) (fun _ _ => rfl)))
      (pss_cons (ps_setLc (i := 4) (own := [("j", 8)]) (g := gName 8) (tt := tYes) rfl sc_law.nd rfl rfl (sw_true rfl rfl rfl (by decide +kernel)) (pi_range1 (by rfl) T.n_range (pa_cons (pv 3) pa_nil)) (blkOk_by (own := [("j", 8)]) (N := N_law) (sc := defScope s_law) (by decide +kernel)) (fun _ _ _ _ _ => (pg_name (i := 8) sc_law.nd rfl (.inl rfl))) (fun _ _ _ _ _ => pts_nil) (fun _ _ _ _ _ => (pe_call G_law_key (hr.mono (by decide)) (by rfl) T.g_law_key T.F_law_key.kp T.b_law_key .nil pass0 (pa_cons (pv 2) pa_nil))))
      (pss_cons (ps_if (PW.pt (pw_and (pt_cmpR (k_neP K hr.units) (pv 4) (pe_lst pa_nil) (nomark _)) (pw_and1 (pt_cmpR op_eq (pe_call G_law_draw (hr.mono (by decide)) (by rfl) T.g_law_draw T.F_law_draw.kp T.b_law_draw .nil pass0 (pa_cons (pv 2) (pa_cons pe_int pa_nil))) pe_int (nomark _)))))
      (pss_one (ps_expr (k_bm K PySem.F.plainAttrs_list PySem.F.slot_list_append PySem.F.type_list_append mt_append (pv 4) (pa_cons (pe_ix (k_ix_list K) (pv 4) (pe_call G_law_draw (hr.mono (by decide)) (by rfl) T.g_law_draw T.F_law_draw.kp T.b_law_draw .nil pass0 (pa_cons (pv 2) (pa_cons (pe_callB (k_len K) (by rfl) T.n_len PySem.boot_len (pa_cons (pv 4) pa_nil)) pa_nil))) (fun _ _ => rfl)) pa_nil))))
      pss_nil)
      (pss_cons (ps_set (i := 4) sc_law.nd rfl (.inl rfl) (pe_op op_cat (pv 4) (pe_lc (own := [("key", 9)]) (g := gName 9)  rfl sc_law.nd (k_pi_list K (pe_slice (k_sl_list K) (pv 4) po_none (po_some pe_int))) (blkOk_by (own := [("key", 9)]) (N := N_law) (sc := defScope s_law) (by decide +kernel)) (fun _ _ _ _ _ => (pg_name (i := 9) sc_law.nd rfl (.inl rfl))) (fun _ _ _ _ _ => pts_one (PW.pt (pw_and (pt_cmpR op_eq (pe_callTy call_str_int (by rfl) T.n_str (by decide +kernel) (pa_cons (pe_call G_law_number (hr.mono (by decide)) (by rfl) T.g_law_number T.F_law_number.kp T.b_law_number .nil pass0 (pa_cons (pv 9) pa_nil)) pa_nil)) (pv 9) (nomark _)) (pw_and1 (pt_cmpR op_lt (pe_callB call_len_str (by rfl) T.n_len PySem.boot_len (pa_cons (pv 9) pa_nil)) pe_int (nomark _)))))) (fun _ _ _ _ _ => (pe_callTy call_str_int (by rfl) T.n_str (by decide +kernel) (pa_cons (pe_op op_add (pe_call G_law_number (hr.mono (by decide)) (by rfl) T.g_law_number T.F_law_number.kp T.b_law_number .nil pass0 (pa_cons (pv 9) pa_nil)) pe_int) pa_nil))))))
      (pss_cons (ps_if (pt_not (pt_val (pe_call G_law_right (hr.mono (by decide)) (by rfl) T.g_law_right T.F_law_right.kp T.b_law_right .nil pass0 (pa_cons (pv 4) pa_nil))))
      (pss_one (ps_ret pe_bl))
      pss_nil)
      (pss_one (ps_for PassesOwn.never rfl (k_pi_list K (pe_slice (k_sl_list K) (pv 4) po_none (po_some pe_int))) (pg_name (i := 5) sc_law.nd rfl (.inl rfl))
      (pss_one (ps_for PassesOwn.never rfl (k_pi_list K (pe_slice (k_sl_list K) (pv 4) (po_some (pe_un un_neg pe_int)) po_none)) (pg_name (i := 6) sc_law.nd rfl (.inl rfl))
      (pss_cons (ps_set (i := 7) sc_law.nd rfl (.inl rfl) (pe_call G_before (hr.mono (by decide)) (by rfl) T.g_before T.F_before.kp T.b_before .nil pass0 (pa_cons (pv 5) (pa_cons (pv 6) pa_nil))))
      (pss_one (ps_if (PW.pt (pw_or (pt_not (pt_val (pe_callB (k_isi K) (by rfl) T.n_isinstance (by decide +kernel) (pa_cons (pv 7) (pa_cons (pe_bltn (v := .ty "bool") (by rfl) T.n_bool (by decide +kernel) rfl) pa_nil))))) (pw_or1 (pt_cmpR op_ne (pv 7) (pe_call G_law_ahead (hr.mono (by decide)) (by rfl) T.g_law_ahead T.F_law_ahead.kp T.b_law_ahead .nil pass0 (pa_cons (pv 5) (pa_cons (pv 6) pa_nil))) (nomark _)))))
      (pss_one (ps_ret pe_bl))
      pss_nil))))))))))))))
      (pss_one (ps_ret pe_bl))), ?_⟩
    obtain ⟨m, hm, m0, m1⟩ := turns_of ((ns.map V.int).length : Int) 12 (by decide) (by decide)
    refine ⟨_, rfl, a, _, rfl, .inl hS, 12, _, rfl, 1, _, rfl, m, congrArg (fun z => [V.int z]) hm, by omega, by omega, ?_⟩
    refine for_range (fun i σ H' => Same H H' ∧ ∃ y1 y2 y3 y4 y5 y6 y7 y8 y9, σ = [some (.ref a), y1, y2, y3, y4, y5, y6, y7, y8, y9]) ⟨.refl H, _, _, _, _, _, _, _, _, _, rfl⟩ ?_ (fun σ H' _ => q H')
    rintro i σ H0 hi ⟨s0, y1, y2, y3, y4, y5, y6, y7, y8, y9, rfl⟩
    refine ⟨_, rfl, _, rfl, a, ns, _, rfl, s0.seq hS, by omega, fun cell => ⟨_, rfl, _, _, rfl, by omega, by omega, fun H1 b nb s1 B1 => ?_⟩⟩
    -- how many
    dsimp only
    refine seq_abs (fun σ' H' => ∃ n : Nat, σ' = [some (.ref a), some (.int (0 + (i : Int))), some (.ref b), some (.int (n : Int)), y4, y5, y6, y7, y8, y9] ∧ n ≤ 380 ∧ Chg b H1 H' ∧ BagAt 3 b H') (fun Nx hN => ?_) ?_
    · refine ⟨_, rfl, b, 15, 0, rfl, by decide, by decide, by decide, B1, fun H2 r c2 B2 r0 r1 => ?_⟩
      refine ⟨Evl.sz_of (by show 2 ≤ 100000; decide), fun p hp => ⟨_, rfl, b, 2, _, rfl, by decide, by decide, by decide, B2.new hp, fun H3 u c3 B3 u0 u1 => ?_⟩⟩
      have e3 : H3 p = some (.lst [.int 60, .int 380]) := c3 _ _ (B2.ne hp).symm upd_same
      obtain ⟨v, hv, ev⟩ := at_lt (xs := ([.int 60, .int 380] : List V)) u0 u1
      obtain ⟨n2, rfl, hn2⟩ : ∃ n : Int, v = .int n ∧ (n = 60 ∨ n = 380) := by
        simp only [List.mem_cons, List.not_mem_nil, or_false] at hv
        rcases hv with rfl | rfl
        · exact ⟨60, rfl, .inl rfl⟩
        · exact ⟨380, rfl, .inr rfl⟩
      refine ⟨p, _, u, _, rfl, rfl, .inl (.inl e3), ev, Evl.sz_of (by show 2 ≤ 100000; decide), fun p2 hp2 => ⟨_, rfl, b, 12, _, rfl, by decide, by decide, by decide, B3.new hp2, fun H4 t c4 B4 t0 t1 => ?_⟩⟩
      have e4 : H4 p2 = some (.lst [.int r, .int n2]) := c4 _ _ (B3.ne hp2).symm upd_same
      have c14 := ((c2.trans (.new hp)).trans c3).trans ((Chg.new hp2).trans c4)
      refine ⟨rfl, .inr ⟨_, rfl, ?_⟩⟩
      cases ht : decide (V.int t = V.int 5) with
      | true => exact ⟨p2, _, 1, .int n2, rfl, rfl, .inl (.inl e4), atI_nat (j := 1) rfl, hN _ _ ⟨n2.toNat, by rw [Int.toNat_of_nonneg (by omega)]; rfl, by omega, c14, B4⟩⟩
      | false => exact ⟨p2, _, 0, .int r, rfl, rfl, .inl (.inl e4), atI_nat (j := 0) rfl, hN _ _ ⟨r.toNat, by rw [Int.toNat_of_nonneg r0]; rfl, by omega, c14, B4⟩⟩
    rintro σ' H2 ⟨n, rfl, hn, c2, B2⟩
    -- the keys
    refine seq_abs (fun σ' H' => ∃ (D : Addr) (ks : List Str), σ' = [some (.ref a), some (.int (0 + (i : Int))), some (.ref b), some (.int (n : Int)), some (.ref D), y5, y6, y7, y8, y9] ∧ H1 D = none ∧ ks.length ≤ 380 ∧ (∀ k ∈ ks, KeyS k) ∧ Chg b H1 H' ∧ BagAt 800000 b H' ∧ H' D = some (.lst (ks.map V.str))) (fun Nx hN => ?_) ?_
    · refine ⟨_, rfl, _, rfl, by omega, by omega, fun D hD => ?_⟩
      refine lc_draws (N := 3) (c := 2001) (n := (n : Int).toNat) (fun v => ∃ x : Str, v = .str x ∧ KeyS x) (by omega) hD B2 (fun H3 M kk c3 B3 hM R q3 => ?_) (by decide) (fun H3 ys yl hy c3 B3 e3 => ?_)
      · exact ⟨_, rfl, b, M, rfl, by omega, B3, fun H4 x c4 B4 hx => q3 _ _ c4 B4 ⟨x, rfl, hx⟩⟩
      obtain ⟨ks, rfl, hks⟩ := strs_of hy
      rw [List.length_map] at yl
      exact hN _ _ ⟨D, ks, rfl, none_of_chg c2 (B2.ne hD).symm hD, by omega, hks, c2.trans c3, B3.mono (by omega), e3⟩
    rintro σ' H3 ⟨D, ks0, rfl, hD1, hl0, hk0, c3, B3, e3⟩
    -- one of them twice
    refine seq_abs (fun σ' H' => ∃ (ks : List Str), σ' = [some (.ref a), some (.int (0 + (i : Int))), some (.ref b), some (.int (n : Int)), some (.ref D), y5, y6, y7, y8, y9] ∧ ks.length ≤ 381 ∧ (∀ k ∈ ks, KeyS k) ∧ Chg b H1 H' ∧ H' D = some (.lst (ks.map V.str))) (fun Nx hN => ?_) ?_
    · refine ⟨_, rfl, Evl.sz_of (by show 0 ≤ 100000; decide), fun p hp => ?_⟩
      have e4 := same_new (o := .lst []) hp _ _ e3
      have B4 := B3.new (o := .lst []) hp
      have c4 := c3.trans (.new (o := .lst []) hp)
      refine rd_neP (dv_strsL (.inl (.inl e4))) (dv_strsL (ks := []) (.inl (.inl upd_same))) (by decide) ⟨_, rfl, ite2 (fun hne => ?_) (fun _ => iteF (hN _ _ ⟨ks0, rfl, by omega, hk0, c4, e4⟩))⟩
      have hpos : 0 < ks0.length := by
        cases ks0 with
        | nil => rw [decide_eq_true rfl] at hne; cases hne
        | cons x r => exact Nat.succ_pos _
      generalize upd H3 p _ = H4 at e4 B4 c4 ⊢
      refine ⟨_, rfl, b, 2, _, rfl, by decide, by decide, by decide, B4, fun H5 r c5 B5 r0 r1 => ⟨rfl, _, rfl, ?_⟩⟩
      have e5 := c5 _ _ (B4.neS e4) e4
      refine ite2 (fun _ => ?_) (fun _ => hN _ _ ⟨ks0, rfl, by omega, hk0, c4.trans c5, e5⟩)
      refine ⟨_, rfl, .inl ⟨rfl, _, .inl (.inl e5)⟩, _, rfl, ?_⟩
      refine rd_draw (m := ((ks0.map V.str).length : Int)) (N := 800001) rfl (fun R h => ⟨_, rfl, D, _, rfl, .inl (.inl (.inl e5)), h⟩) (by rw [List.length_map]; omega) (by rw [List.length_map]; omega) (by decide) B5 fun H6 u c6 B6 u0 u1 => ?_
      have e6 := c6 _ _ (B5.neS e5) e5
      obtain ⟨v, hv, ev⟩ := at_lt (xs := ks0.map V.str) u0 u1
      obtain ⟨x, hx, rfl⟩ := List.mem_map.mp hv
      refine ⟨D, _, u, _, rfl, rfl, .inl (.inl e6), ev, D, _, _, rfl, rfl, e6, Evl.sz_lt (by rw [List.length_map]; omega), ?_⟩
      refine hN _ _ ⟨ks0 ++ [x], rfl, by rw [List.length_append]; show _ + 1 ≤ _; omega, fun k hk => ?_, ((c4.trans c5).trans c6).mut hD1, by rw [upd_same, List.map_append]; rfl⟩
      rcases List.mem_append.mp hk with hk | hk
      · exact hk0 k hk
      · rw [List.mem_singleton.mp hk]; exact hk0 x hx
    rintro σ' H4 ⟨ks, rfl, hl4, hk4, c4, e4⟩
    -- the numbers behind
    refine seq_abs (fun σ' H' => ∃ (D2 : Addr) (ks : List Str), σ' = [some (.ref a), some (.int (0 + (i : Int))), some (.ref b), some (.int (n : Int)), some (.ref D2), y5, y6, y7, y8, y9] ∧ ks.length ≤ 400 ∧ (∀ k ∈ ks, KeyW k) ∧ Chg b H1 H' ∧ H' D2 = some (.lst (ks.map V.str))) (fun Nx hN => ?_) ?_
    · refine ⟨_, rfl, _, rfl, ?_⟩
      dsimp only [tNoPart]
      refine ⟨_, rfl, D, _, rfl, .inl (.inl e4), fun p4 hp4 => ⟨p4, rfl, ⟨_, .inl (.inl upd_same)⟩, fun E2 hE2 => ?_⟩⟩
      have e5 : upd H4 p4 (.lst (cutV (ks.map V.str) none (some 3))) p4 = some (.lst ((ks.take 3).map V.str)) := by rw [upd_same, show cutV (ks.map V.str) none (some 3) = (ks.map V.str).take 3 from cutV_to, List.map_take]
      have s5 := same_new (o := .lst (cutV (ks.map V.str) none (some 3))) hp4
      generalize upd H4 p4 _ = H5 at e5 s5 hE2 ⊢
      refine lc_pure_list (K := K) (onStrB fun x => isNumS x && decide ((x.length : Int) < 40)) (onStr fun x => .str (intS (numS x + 1))) (by rw [List.length_map, List.length_take]; omega) hE2 (.inl (.inl e5)) (fun v H6 hv s6 R q6 => ?_) (fun v H6 hv _ s6 R q6 => ?_) (fun H6 s6 e6 => ?_)
      · obtain ⟨x, hx, rfl⟩ := List.mem_map.mp hv
        have hx := (hk4 x (List.mem_of_mem_take hx)).2.1
        have q7 : ∀ H3, Same H6 H3 → R (isNumS x && decide ((x.length : Int) < 40)) H3 := q6
        refine ⟨_, rfl, x, rfl, by omega, fun H7 s7 => ⟨_, rfl, numS_bits (by omega), _, rfl, rfl, _, rfl, ?_⟩⟩
        rw [tl_own]
        have q8 := q7 H7 s7
        cases hn : isNumS x with
        | true =>
          rw [hn] at q8
          exact iteT ⟨_, rfl, x, rfl, Evl.sz_of (by omega), _, _, rfl, rfl, _, rfl, q8⟩
        | false =>
          rw [hn] at q8
          exact iteF q8
      · obtain ⟨x, hx, rfl⟩ := List.mem_map.mp hv
        have hx := (hk4 x (List.mem_of_mem_take hx)).2.1
        exact ⟨_, rfl, x, rfl, by omega, fun H7 s7 => ⟨_, _, rfl, rfl, _, rfl, (next_ok (by omega)).1, q6 _ s7⟩⟩
      rw [strs_filter] at e6
      have e46 := (s5.trans s6) _ _ e4
      have hlen : (((ks.take 3).filter fun x => isNumS x && decide ((x.length : Int) < 40)).map fun x => intS (numS x + 1)).length ≤ 3 := by
        rw [List.length_map]
        refine Nat.le_trans (List.length_filter_le _ _) ?_
        rw [List.length_take]
        omega
      refine ⟨D, E2, _, _, rfl, rfl, e46, e6, Evl.sz_of (by rw [List.length_map, List.length_map]; omega), fun p5 hp5 => ?_⟩
      refine hN _ _ ⟨p5, _, rfl, ?_, fun k hk => ?_, (c4.trans (.same (s5.trans s6))).trans (.new hp5), by rw [upd_same, ← List.map_append]⟩
      · rw [List.length_append]; omega
      · rcases List.mem_append.mp hk with hk | hk
        · exact .of (hk4 k hk)
        · obtain ⟨x, hx, rfl⟩ := List.mem_map.mp hk
          have hx := hk4 x (List.mem_of_mem_take (List.mem_filter.mp hx).1)
          have hx40 := hx.2.1
          exact ⟨by have := (next_ok (x := x) (by omega)).2; omega, worth_int _⟩
    rintro σ' H5 ⟨D2, ks2, rfl, hl5, hk5, c5, e5⟩
    have h640 : ∀ k ∈ ks2, k.length ≤ 640 := fun k h => Nat.le_trans (hk5 k h).len (by decide)
    refine ⟨_, rfl, D2, ks2, rfl, .inl (.inl e5), by omega, hk5, fun H6 s6 => ⟨_, rfl, iteF ?_⟩⟩
    have e6 := s6 _ _ e5
    have c6 := c5.trans (.same s6)
    refine ⟨_, rfl, ?_⟩
    dsimp only [tNoPart]
    refine ⟨_, rfl, D2, _, rfl, .inl (.inl e6), fun p7 hp7 => ?_⟩
    have s7 := same_new (o := .lst (cutV (ks2.map V.str) none (some 8))) hp7
    have e7 : upd H6 p7 (.lst (cutV (ks2.map V.str) none (some 8))) p7 = some (.lst (cutV (ks2.map V.str) none (some 8))) := upd_same
    have d7 := s7 _ _ e6
    have c7 := c6.trans (.same s7)
    generalize upd H6 p7 _ = H7 at e7 d7 c7 ⊢
    refine ⟨p7, rfl, ⟨_, .inl (.inl e7)⟩, ?_⟩
    refine for_list (K := K) (D := { nx := fun σ H' => Same H H' ∧ ∃ y1 y2 y3 y4 y5 y6 y7 y8 y9, σ = [some (.ref a), y1, y2, y3, y4, y5, y6, y7, y8, y9], rt := Q }) (fun j σ' H' => ∃ z5 z6 z7, σ' = [some (.ref a), some (.int (0 + (i : Int))), some (.ref b), some (.int (n : Int)), some (.ref D2), z5, z6, z7, y8, y9] ∧ Same H7 H') ⟨_, _, _, rfl, .refl _⟩ (fun j σ' H' _ ⟨_, _, _, _, t⟩ => t.seq (.inl (.inl e7))) ?_ ?_
    · rintro j v σ' H8 hv ⟨z5, z6, z7, rfl, s8⟩
      obtain ⟨x, hx, rfl⟩ := List.mem_map.mp (cutV_mem (List.mem_of_getElem? hv))
      have wx := hk5 x hx
      have lx := h640 x hx
      refine ⟨_, rfl, 8, rfl, -8, rfl, ?_⟩
      dsimp only [tNoPart]
      have d8 := s8 _ _ d7
      refine ⟨D2, _, rfl, .inl (.inl d8), fun p9 hp9 => ?_⟩
      have s9 := s8.trans (same_new (o := .lst (cutV (ks2.map V.str) (some (-8)) none)) hp9)
      have e9 : upd H8 p9 (.lst (cutV (ks2.map V.str) (some (-8)) none)) p9 = some (.lst (cutV (ks2.map V.str) (some (-8)) none)) := upd_same
      generalize upd H8 p9 _ = H9 at s9 e9 ⊢
      refine ⟨p9, rfl, ⟨_, .inl (.inl e9)⟩, ?_⟩
      refine for_list (K := K) (D := { nx := fun σ' H' => ∃ z5 z6 z7, σ' = [some (.ref a), some (.int (0 + (i : Int))), some (.ref b), some (.int (n : Int)), some (.ref D2), z5, z6, z7, y8, y9] ∧ Same H7 H', rt := Q })
        (fun j σ' H' => ∃ z6 z7, σ' = [some (.ref a), some (.int (0 + (i : Int))), some (.ref b), some (.int (n : Int)), some (.ref D2), some (.str x), z6, z7, y8, y9] ∧ Same H9 H') ⟨_, _, rfl, .refl _⟩ (fun j σ' H' _ ⟨_, _, _, t⟩ => t.seq (.inl (.inl e9))) ?_ ?_
      · rintro k v σ' H10 hv ⟨z6, z7, rfl, s10⟩
        obtain ⟨y, hy, rfl⟩ := List.mem_map.mp (cutV_mem (List.mem_of_getElem? hv))
        have wy := hk5 y hy
        have ly := h640 y hy
        refine ⟨_, rfl, _, rfl, x, y, rfl, lx, ly, fun H11 s11 => ?_⟩
        refine ⟨_, rfl, _, _, _, _, true, rfl, .ty "bool", .base (.bl _), kit_ty (by decide +kernel), _, rfl, iteF ⟨_, rfl, _, rfl, _, rfl, x, y, rfl, wx, wy, fun H12 s12 => ⟨rfl, _, rfl, ?_⟩⟩⟩
        rw [decide_eq_true rfl]
        exact iteF ⟨_, _, rfl, (s10.trans s11).trans s12⟩
      · rintro σ' H10 ⟨z6, z7, rfl, s10⟩
        exact ⟨_, _, _, rfl, s9.trans s10⟩
    · rintro σ' H8 ⟨z5, z6, z7, rfl, s8⟩
      exact ⟨s0.trans (same_chg s1 (c7.trans (.same s8)) nb), _, _, _, _, _, _, _, _, _, rfl⟩

end
theorem all_mk {l : PySem.W.OpenLaw} {w : World} {K : PySem.W.Frag} {h : Heap} {mg : Str → Option Value} {fa : Addr} (X : K.In h) (G : h.Ns mainGlobals mg) (hfa : mg "law" = some (.ref fa))
    {f0 : Addr} {od0 an0 : Option Addr} {sl0 : Array (Option Value)} {oc0 kV0 dc0 pm0 cd0 ct0 : Value}
    (a0 : PySem.W.nsIn K mainGlobals "signs_ahead" = some (some (.ref f0))) (l0 : K.lookup f0 = some ⟨oc0, od0, .func (PySem.W.fnOf "signs_ahead" "signs_ahead" (defArgs s_signs_ahead) (defBody s_signs_ahead) (defScope s_signs_ahead) .none kV0 dc0 pm0 an0 cd0 ct0), sl0⟩) (c0 : PySem.W.codeIn K cd0 "signs_ahead" = true) (k0 : PySem.W.keepIn K (.ref f0) = true)
    {f1 : Addr} {od1 an1 : Option Addr} {sl1 : Array (Option Value)} {oc1 kV1 dc1 pm1 cd1 ct1 : Value}
    (a1 : PySem.W.nsIn K mainGlobals "number_of" = some (some (.ref f1))) (l1 : K.lookup f1 = some ⟨oc1, od1, .func (PySem.W.fnOf "number_of" "number_of" (defArgs s_number_of) (defBody s_number_of) (defScope s_number_of) .none kV1 dc1 pm1 an1 cd1 ct1), sl1⟩) (c1 : PySem.W.codeIn K cd1 "number_of" = true) (k1 : PySem.W.keepIn K (.ref f1) = true)
    {f2 : Addr} {od2 an2 : Option Addr} {sl2 : Array (Option Value)} {oc2 kV2 dc2 pm2 cd2 ct2 : Value}
    (a2 : PySem.W.nsIn K mainGlobals "is_number_text" = some (some (.ref f2))) (l2 : K.lookup f2 = some ⟨oc2, od2, .func (PySem.W.fnOf "is_number_text" "is_number_text" (defArgs s_is_number_text) (defBody s_is_number_text) (defScope s_is_number_text) .none kV2 dc2 pm2 an2 cd2 ct2), sl2⟩) (c2 : PySem.W.codeIn K cd2 "is_number_text" = true) (k2 : PySem.W.keepIn K (.ref f2) = true)
    {f3 : Addr} {od3 an3 : Option Addr} {sl3 : Array (Option Value)} {oc3 kV3 dc3 pm3 cd3 ct3 : Value}
    (a3 : PySem.W.nsIn K mainGlobals "rank" = some (some (.ref f3))) (l3 : K.lookup f3 = some ⟨oc3, od3, .func (PySem.W.fnOf "rank" "rank" (defArgs s_rank) (defBody s_rank) (defScope s_rank) .none kV3 dc3 pm3 an3 cd3 ct3), sl3⟩) (c3 : PySem.W.codeIn K cd3 "rank" = true) (k3 : PySem.W.keepIn K (.ref f3) = true)
    {f4 : Addr} {od4 an4 : Option Addr} {sl4 : Array (Option Value)} {oc4 kV4 dc4 pm4 cd4 ct4 : Value}
    (a4 : PySem.W.nsIn K mainGlobals "before" = some (some (.ref f4))) (l4 : K.lookup f4 = some ⟨oc4, od4, .func (PySem.W.fnOf "before" "before" (defArgs s_before) (defBody s_before) (defScope s_before) .none kV4 dc4 pm4 an4 cd4 ct4), sl4⟩) (c4 : PySem.W.codeIn K cd4 "before" = true) (k4 : PySem.W.keepIn K (.ref f4) = true)
    {f5 : Addr} {od5 an5 : Option Addr} {sl5 : Array (Option Value)} {oc5 kV5 dc5 pm5 cd5 ct5 : Value}
    (a5 : PySem.W.nsIn K mainGlobals "in_order" = some (some (.ref f5))) (l5 : K.lookup f5 = some ⟨oc5, od5, .func (PySem.W.fnOf "in_order" "in_order" (defArgs s_in_order) (defBody s_in_order) (defScope s_in_order) .none kV5 dc5 pm5 an5 cd5 ct5), sl5⟩) (c5 : PySem.W.codeIn K cd5 "in_order" = true) (k5 : PySem.W.keepIn K (.ref f5) = true)
    {f6 : Addr} {od6 an6 : Option Addr} {sl6 : Array (Option Value)} {oc6 kV6 dc6 pm6 cd6 ct6 : Value}
    (a6 : PySem.W.nsIn K mainGlobals "_law_cell_at" = some (some (.ref f6))) (l6 : K.lookup f6 = some ⟨oc6, od6, .func (PySem.W.fnOf "_law_cell_at" "_law_cell_at" (defArgs s_law_cell_at) (defBody s_law_cell_at) (defScope s_law_cell_at) .none kV6 dc6 pm6 an6 cd6 ct6), sl6⟩) (c6 : PySem.W.codeIn K cd6 "_law_cell_at" = true) (k6 : PySem.W.keepIn K (.ref f6) = true)
    {f7 : Addr} {od7 an7 : Option Addr} {sl7 : Array (Option Value)} {oc7 kV7 dc7 pm7 cd7 ct7 : Value}
    (a7 : PySem.W.nsIn K mainGlobals "_law_bag" = some (some (.ref f7))) (l7 : K.lookup f7 = some ⟨oc7, od7, .func (PySem.W.fnOf "_law_bag" "_law_bag" (defArgs s_law_bag) (defBody s_law_bag) (defScope s_law_bag) .none kV7 dc7 pm7 an7 cd7 ct7), sl7⟩) (c7 : PySem.W.codeIn K cd7 "_law_bag" = true) (k7 : PySem.W.keepIn K (.ref f7) = true)
    {f8 : Addr} {od8 an8 : Option Addr} {sl8 : Array (Option Value)} {oc8 kV8 dc8 pm8 cd8 ct8 : Value}
    (a8 : PySem.W.nsIn K mainGlobals "_law_draw" = some (some (.ref f8))) (l8 : K.lookup f8 = some ⟨oc8, od8, .func (PySem.W.fnOf "_law_draw" "_law_draw" (defArgs s_law_draw) (defBody s_law_draw) (defScope s_law_draw) .none kV8 dc8 pm8 an8 cd8 ct8), sl8⟩) (c8 : PySem.W.codeIn K cd8 "_law_draw" = true) (k8 : PySem.W.keepIn K (.ref f8) = true)
    {f9 : Addr} {od9 an9 : Option Addr} {sl9 : Array (Option Value)} {oc9 kV9 dc9 pm9 cd9 ct9 : Value}
    (a9 : PySem.W.nsIn K mainGlobals "_law_signs" = some (some (.ref f9))) (l9 : K.lookup f9 = some ⟨oc9, od9, .func (PySem.W.fnOf "_law_signs" "_law_signs" (defArgs s_law_signs) (defBody s_law_signs) (defScope s_law_signs) .none kV9 dc9 pm9 an9 cd9 ct9), sl9⟩) (c9 : PySem.W.codeIn K cd9 "_law_signs" = true) (k9 : PySem.W.keepIn K (.ref f9) = true)
    {f10 : Addr} {od10 an10 : Option Addr} {sl10 : Array (Option Value)} {oc10 kV10 dc10 pm10 cd10 ct10 : Value}
    (a10 : PySem.W.nsIn K mainGlobals "_law_text" = some (some (.ref f10))) (l10 : K.lookup f10 = some ⟨oc10, od10, .func (PySem.W.fnOf "_law_text" "_law_text" (defArgs s_law_text) (defBody s_law_text) (defScope s_law_text) .none kV10 dc10 pm10 an10 cd10 ct10), sl10⟩) (c10 : PySem.W.codeIn K cd10 "_law_text" = true) (k10 : PySem.W.keepIn K (.ref f10) = true)
    {f11 : Addr} {od11 an11 : Option Addr} {sl11 : Array (Option Value)} {oc11 kV11 dc11 pm11 cd11 ct11 : Value}
    (a11 : PySem.W.nsIn K mainGlobals "_law_key" = some (some (.ref f11))) (l11 : K.lookup f11 = some ⟨oc11, od11, .func (PySem.W.fnOf "_law_key" "_law_key" (defArgs s_law_key) (defBody s_law_key) (defScope s_law_key) .none kV11 dc11 pm11 an11 cd11 ct11), sl11⟩) (c11 : PySem.W.codeIn K cd11 "_law_key" = true) (k11 : PySem.W.keepIn K (.ref f11) = true)
    {f12 : Addr} {od12 an12 : Option Addr} {sl12 : Array (Option Value)} {oc12 kV12 dc12 pm12 cd12 ct12 : Value}
    (a12 : PySem.W.nsIn K mainGlobals "_law_number" = some (some (.ref f12))) (l12 : K.lookup f12 = some ⟨oc12, od12, .func (PySem.W.fnOf "_law_number" "_law_number" (defArgs s_law_number) (defBody s_law_number) (defScope s_law_number) .none kV12 dc12 pm12 an12 cd12 ct12), sl12⟩) (c12 : PySem.W.codeIn K cd12 "_law_number" = true) (k12 : PySem.W.keepIn K (.ref f12) = true)
    {f13 : Addr} {od13 an13 : Option Addr} {sl13 : Array (Option Value)} {oc13 kV13 dc13 pm13 cd13 ct13 : Value}
    (a13 : PySem.W.nsIn K mainGlobals "_law_ahead" = some (some (.ref f13))) (l13 : K.lookup f13 = some ⟨oc13, od13, .func (PySem.W.fnOf "_law_ahead" "_law_ahead" (defArgs s_law_ahead) (defBody s_law_ahead) (defScope s_law_ahead) .none kV13 dc13 pm13 an13 cd13 ct13), sl13⟩) (c13 : PySem.W.codeIn K cd13 "_law_ahead" = true) (k13 : PySem.W.keepIn K (.ref f13) = true)
    {f14 : Addr} {od14 an14 : Option Addr} {sl14 : Array (Option Value)} {oc14 kV14 dc14 pm14 cd14 ct14 : Value}
    (a14 : PySem.W.nsIn K mainGlobals "_law_right" = some (some (.ref f14))) (l14 : K.lookup f14 = some ⟨oc14, od14, .func (PySem.W.fnOf "_law_right" "_law_right" (defArgs s_law_right) (defBody s_law_right) (defScope s_law_right) .none kV14 dc14 pm14 an14 cd14 ct14), sl14⟩) (c14 : PySem.W.codeIn K cd14 "_law_right" = true) (k14 : PySem.W.keepIn K (.ref f14) = true)
    {f15 : Addr} {od15 an15 : Option Addr} {sl15 : Array (Option Value)} {oc15 kV15 dc15 pm15 cd15 ct15 : Value}
    (a15 : PySem.W.nsIn K mainGlobals "law" = some (some (.ref f15))) (l15 : K.lookup f15 = some ⟨oc15, od15, .func (PySem.W.fnOf "law" "law" (defArgs s_law) (defBody s_law) (defScope s_law) .none kV15 dc15 pm15 an15 cd15 ct15), sl15⟩) (c15 : PySem.W.codeIn K cd15 "law" = true) (k15 : PySem.W.keepIn K (.ref f15) = true)
    (z_bool : PySem.W.nsIn K mainGlobals "bool" = some none)
    (z_int : PySem.W.nsIn K mainGlobals "int" = some none)
    (z_isinstance : PySem.W.nsIn K mainGlobals "isinstance" = some none)
    (z_len : PySem.W.nsIn K mainGlobals "len" = some none)
    (z_list : PySem.W.nsIn K mainGlobals "list" = some none)
    (z_max : PySem.W.nsIn K mainGlobals "max" = some none)
    (z_min : PySem.W.nsIn K mainGlobals "min" = some none)
    (z_range : PySem.W.nsIn K mainGlobals "range" = some none)
    (z_sorted : PySem.W.nsIn K mainGlobals "sorted" = some none)
    (z_str : PySem.W.nsIn K mainGlobals "str" = some none)

    {t_FIGURES : Tok} (g_FIGURES : PySem.W.nsIn K mainGlobals "FIGURES" = some (some (.str (Str.ofString "0123456789") t_FIGURES)))
    : ∃ fd : FuncData, (∀ (s : Shared) (v : Value), BindsTo s fd ⟨[v], []⟩ [("script", v)]) ∧ ∀ base : Heap, K.In base → base.Ns mainGlobals mg → FnOk l.prog w K mg base CX0 8 fa fd ["script"] (spLaw K) := by
  have e := hfa.symm.trans (PySem.W.mg_of X G a15)
  cases e
  have T := txt_mk X G a0 l0 c0 k0 a1 l1 c1 k1 a2 l2 c2 k2 a3 l3 c3 k3 a4 l4 c4 k4 a5 l5 c5 k5 a6 l6 c6 k6 a7 l7 c7 k7 a8 l8 c8 k8 a9 l9 c9 k9 a10 l10 c10 k10 a11 l11 c11 k11 a12 l12 c12 k12 a13 l13 c13 k13 a14 l14 c14 k14 a15 l15 c15 k15 z_bool z_int z_isinstance z_len z_list z_max z_min z_range z_sorted z_str g_FIGURES
  exact ⟨_, fun s v => .of_eq rfl, fun base _ _ => ok_law T⟩
end Sk
open PySem PySem.W PyProof.Rows
set_option maxHeartbeats 0 in
theorem PySem.Challenge.cw_stemkeep_k03_keys_in_order_holds : PySem.Challenge.rw_stemkeep_k03_keys_in_order.Holds := by
  w_on; o_law; k_head; (case hw => w_witness2)
  k_fill
  refine L2.walk_ofB (l := PySem.Challenge.rw_stemkeep_k03_keys_in_order) (n := 63) (k := 8) (x := "script") (CX := fun _ => L2.CX0) (sp := fun w => Sk.spLaw _) rfl (by decide) rfl ⟨rfl, by decide, by decide⟩ (fun w h Y => PySem.W.kIn_of Y) ?F (fun _ H a ns hl hb hO hS => Sk.spLaw_start hl hb hO hS) (fun _ _ _ _ _ h => h)
  case F =>
    intro w mg fa h KX G hmg
    refine' Sk.all_mk KX G hmg ?a0 ?l0 ?c0 ?k0 ?a1 ?l1 ?c1 ?k1 ?a2 ?l2 ?c2 ?k2 ?a3 ?l3 ?c3 ?k3 ?a4 ?l4 ?c4 ?k4 ?a5 ?l5 ?c5 ?k5 ?a6 ?l6 ?c6 ?k6 ?a7 ?l7 ?c7 ?k7 ?a8 ?l8 ?c8 ?k8 ?a9 ?l9 ?c9 ?k9 ?a10 ?l10 ?c10 ?k10 ?a11 ?l11 ?c11 ?k11 ?a12 ?l12 ?c12 ?k12 ?a13 ?l13 ?c13 ?k13 ?a14 ?l14 ?c14 ?k14 ?a15 ?l15 ?c15 ?k15 ?z_bool ?z_int ?z_isinstance ?z_len ?z_list ?z_max ?z_min ?z_range ?z_sorted ?z_str ?g_FIGURES
    (case a0 => k_is); (case l0 => k_is); (case c0 => k_is); (case k0 => k_is); (case a1 => k_is); (case l1 => k_is); (case c1 => k_is); (case k1 => k_is); (case a2 => k_is); (case l2 => k_is); (case c2 => k_is); (case k2 => k_is); (case a3 => k_is); (case l3 => k_is); (case c3 => k_is); (case k3 => k_is); (case a4 => k_is); (case l4 => k_is); (case c4 => k_is); (case k4 => k_is); (case a5 => k_is); (case l5 => k_is); (case c5 => k_is); (case k5 => k_is); (case a6 => k_is); (case l6 => k_is); (case c6 => k_is); (case k6 => k_is); (case a7 => k_is); (case l7 => k_is); (case c7 => k_is); (case k7 => k_is); (case a8 => k_is); (case l8 => k_is); (case c8 => k_is); (case k8 => k_is); (case a9 => k_is); (case l9 => k_is); (case c9 => k_is); (case k9 => k_is); (case a10 => k_is); (case l10 => k_is); (case c10 => k_is); (case k10 => k_is); (case a11 => k_is); (case l11 => k_is); (case c11 => k_is); (case k11 => k_is); (case a12 => k_is); (case l12 => k_is); (case c12 => k_is); (case k12 => k_is); (case a13 => k_is); (case l13 => k_is); (case c13 => k_is); (case k13 => k_is); (case a14 => k_is); (case l14 => k_is); (case c14 => k_is); (case k14 => k_is); (case a15 => k_is); (case l15 => k_is); (case c15 => k_is); (case k15 => k_is); (case z_bool => k_is); (case z_int => k_is); (case z_isinstance => k_is); (case z_len => k_is); (case z_list => k_is); (case z_max => k_is); (case z_min => k_is); (case z_range => k_is); (case z_sorted => k_is); (case z_str => k_is); (case g_FIGURES => k_is)
